import PyProof.Rows.All
import Wide.All
import OpenK.AllK
import Wide.FinOn
import KE.KStateDown
import HandS.ForMost
import HandS.ForExc
import HandS.Defaults
import HandS.IsInst
import HandS.TupLe
import HandS.Wide
import HandS.SortInts
import HandS.EndBits
import HandS.MakeKwOnly
import HandS.Head0
import HandS.Head1
import HandS.Head2
import HandS.HeadEnd
import HandS.HeadHook1
import HandS.HeadHook2
import HandS.Walk
import HandS.Zip
import HandS.Conv
import HandS.TryOnly
import HandS.ExcOwn
import HandS.CallSlots
import HandS.More
import PySem.Challenge.RW_wrapclues_k47_words_replaced
set_option Elab.async false
set_option linter.all false
set_option maxRecDepth 100000
set_option maxHeartbeats 4000000
/-! Rules of my own over the hand layer: defs that ask that no repr is under way (guards), calls by keywords alone, powers, repr of data. -/
namespace Wc
open PySem PySem.Spec PyProof.Rows L2

/-! ### a callee, bundled -/
structure Cal (P : Program) (w : World) (K : PySem.W.Frag) (mg : Str → Option Value) (base : Heap) (CX : CXT) (k : Nat) (x : Str) (ps : List Str) (dvs : List V) (sp : Sp) : Prop where
  ex : ∃ (f : Addr) (fd : FuncData) (ds : List Value), FnOk P w K mg base CX k f fd ps sp ∧ mg x = some (.ref f) ∧ PySem.W.keepIn K (.ref f) = true ∧ Vals dvs ds ∧ L2.Binds K fd ps ds

section
variable {X : Cx} {CX : CXT} {k : Nat} {x : Str} {ps : List Str} {dvs : List V} {sp : Sp} {E : XK} {p pos : Pos} {e : Expr} {es : List Expr} {t : TA}
theorem pe_cal (c : Cal X.prog X.w X.K X.mg X.base CX k x ps dvs sp) (hr : Room k X.A) (hx : Passes CX X E) (ha : PA X (e :: es) t) (hg : Gl X x := by rfl) (hdb : (x == ("__debug__" : Str)) = false := by decide)
    (he : starEach (e :: es) X.env = (false, eval e X.env) :: starEach es X.env := by rfl) (hpl : (backTo pos (starEach es X.env)).any (·.1) = false := by rfl) :
    PE X (.Call (.Name x p) (e :: es) [] pos) (tCall sp dvs E t) := by
  obtain ⟨f, fd, ds, F, hm, hk, hd, hb⟩ := c.ex
  exact pe_call F hr hg hm hk hb hd hx ha hdb he hpl
theorem pe_cal0 (c : Cal X.prog X.w X.K X.mg X.base CX k x ps dvs sp) (hr : Room k X.A) (hx : Passes CX X E) (hg : Gl X x := by rfl) (hdb : (x == ("__debug__" : Str)) = false := by decide) :
    PE X (.Call (.Name x p) [] [] pos) (tCall sp dvs E tNil) := by
  obtain ⟨f, fd, ds, F, hm, hk, hd, hb⟩ := c.ex
  exact pe_call0 F hr hg hm hk hb hd hx hdb
end

/-! ### defs that run where no guard stands (for repr) -/
structure FnG (P : Program) (w : World) (K : PySem.W.Frag) (mg : Str → Option Value) (base : Heap) (k : Nat) (f : Addr) (fd : FuncData) (ps : List Str) (sp : Sp) : Prop where
  len : ∀ vs H Q E, sp vs H Q E → vs.length = ps.length
  run : ∀ (A : Around) (outer : List Env) (s : Shared) (H : Hp) (args : Args) (us : List Value) (vs : List V) (Q : VK) (E : XK), A.guards = some [] → Room k A → Env0 P w K mg base A outer s H →
    BindsTo s fd args (ps.zip us) → Vals vs us → sp vs H Q E → codeAny (model P w) A (.call (.ref f) args) (CR CX0 outer P w H s Q E) s

theorem deeper_guards {A : Around} {q : Str} {sc : Scope} {L f : Addr} {cd : Value} (h : A.guards = some []) : (A.deeper (envOfC q sc L f cd)).guards = some [] := h

theorem fnG_of {P : Program} {w : World} {K : PySem.W.Frag} {mg : Str → Option Value} {base : Heap} {k : Nat} {x qual : Str} {params : Arguments} {body : List Stmt} {sc : Scope} {f : Addr} {fd : FuncData} {N ps : List Str} {sp : Sp}
    (F : FunD K x qual params body sc [] [] f fd) (S : FnScope N ps sc) (len : ∀ vs H Q E, sp vs H Q E → vs.length = ps.length)
    (hbody : ∀ (cdv : Value) (A : Around) (outer : List Env) (s : Shared) (H : Hp) (vs : List V) (Q : VK) (E : XK), (A.deeper (envOfC qual sc s.heap.objs.size f cdv)).guards = some [] →
      Room k (A.deeper (envOfC qual sc s.heap.objs.size f cdv)) → sp vs H Q E →
      ∃ t, PSs (cxOf CX0 P w K mg base N qual sc f cdv A outer s H E).nox body t ∧ t { nx := fun _ H' => Q .non H', rt := Q } (start N vs) H) : FnG P w K mg base (k + 1) f fd ps sp := by
  obtain ⟨oc, od, dV, kV, doc, pm, an, cdv, ct, osl, rfl, lk, hcd, _, _⟩ := F.ex
  refine ⟨len, ?_⟩
  intro A outer s H args us vs Q E hg hr e0 hb r hsp
  have lenv := len _ _ _ _ hsp
  have keeps : ∀ b o, base.get? b = some o → s.heap.get? b = some o := fun b o e => (e0.bs b o e).1
  have KX : K.In s.heap := e0.mod.kin.keeps keeps
  have noL : s.heap.NoLimit := e0.mod.nolimit.keeps keeps
  refine codeAny_call_function hr.depth (KX _ _ lk) rfl S.co S.gen rfl (PySem.W.codeRec_of KX hcd) (hb _ _ _ _ ?_)
  refine wpAny_newFunctionEnv_cells S.kind ?kinds ?main
  case kinds =>
    rintro ⟨n, v⟩ hy
    cases S.par n (List.of_mem_zip hy).1 with
    | inl q => exact .inl q
    | inr q => exact .inr ⟨q, PySem.W.cellsFrom_some _ _ _ (.inl q)⟩
  case main =>
    rintro env rfl s1 x
    refine ⟨noL.keeps x.toInCall.keep, codeAny_func ?_⟩
    obtain ⟨t, ht, hq⟩ := hbody cdv A outer s H vs Q E (deeper_guards hg) (hr.deeper _) hsp
    have I := inv_start (CX := CX0) (E := E) S hr.hd e0 lenv r x
    refine wpAny_mono (ht.nox.run [] s1 (start N vs) H _ I hq) ?good ?bad
    case bad => exact fun _ _ h => h
    case good =>
      intro fl s' hs
      have fin : ∀ {σ' : L2.St} {H' : Hp} {v : V} {u : Value}, Inv (cxOf CX0 P w K mg base N qual sc f cdv A outer s H E) [] σ' H' s' → RelV v u → Q v H' → CE outer P w H s Q u s' := by
        intro σ' H' v u J rv q
        exact ⟨v, H', J.os, J.bare, J.base, J.hok, rv, q⟩
      match fl, hs with
      | .ret _, ⟨_, _, _, J, rv, q⟩ => exact fin J rv q
      | .next, ⟨_, _, J, q⟩ => exact fin (v := V.non) (u := Value.none) J rfl q
      | .brk, ⟨_, _, _, q⟩ => exact q.elim
      | .cont, ⟨_, _, _, q⟩ => exact q.elim

structure CalG (P : Program) (w : World) (K : PySem.W.Frag) (mg : Str → Option Value) (base : Heap) (k : Nat) (x : Str) (ps : List Str) (sp : Sp) : Prop where
  ex : ∃ (f : Addr) (fd : FuncData), FnG P w K mg base k f fd ps sp ∧ mg x = some (.ref f) ∧ PySem.W.keepIn K (.ref f) = true ∧ L2.Binds K fd ps []

section
variable {X : Cx} {k : Nat} {x : Str} {ps : List Str} {sp : Sp} {p pos : Pos} {e : Expr} {es : List Expr} {t : TA}
/-- f(e, ..), where no guard stands -/
theorem pe_calG (c : CalG X.prog X.w X.K X.mg X.base k x ps sp) (hgd : X.A.guards = some []) (hr : Room k X.A) (ha : PA X (e :: es) t) (hg : Gl X x := by rfl) (hdb : (x == ("__debug__" : Str)) = false := by decide)
    (he : starEach (e :: es) X.env = (false, eval e X.env) :: starEach es X.env := by rfl) (hpl : (backTo pos (starEach es X.env)).any (·.1) = false := by rfl) :
    PE X (.Call (.Name x p) (e :: es) [] pos) (tCall sp [] E0 t) := by
  obtain ⟨f, fd, F, hm, hk, hb⟩ := c.ex
  constructor
  intro pins s σ H Q I h
  refine wpAny_Call_Name_kw (ld_glob I hg hm ?_ hdb)
  refine PySem.W.callWith_K (h₀ := X.base) I.ok.mod.kin hk (thn (ha.run pos pins s σ H _ I h) ?_) he hpl
  rintro us s1 ⟨vs, H1, I1, r, q⟩
  refine ⟨I1.kIn, ?_⟩
  have q' : sp vs H1 Q E0 := by
    have q0 : sp (vs ++ []) H1 Q E0 := q
    rwa [List.append_nil] at q0
  have lu : us.length = ps.length := by rw [← r.length]; exact F.len _ _ _ _ q'
  have hb' : BindsTo s1 fd ⟨us, []⟩ (ps.zip us) := by
    have z := hb s1 us I1.kIn (by rw [List.append_nil]; exact lu)
    rwa [List.append_nil] at z
  refine wpAny_call (codeAny_mono (F.run X.A X.stack s1 H1 ⟨us, []⟩ us vs Q E0 hgd hr I1.env0 hb' r q') ?_)
  intro res s' hq
  match res, hq with
  | .ok (.ret _), hq => exact I1.after hq
  | .ok .next, hq => exact hq.elim
  | .ok .brk, hq => exact hq.elim
  | .ok .cont, hq => exact hq.elim
  | .error _, hq => exact hq.elim
end

/-! ### calls by keywords alone -/
/-- the parameters' values, by the keywords' places -/
def permV (is : List Nat) : List V → List V → List V := fun _ zs => is.map fun i => zs.getD i .non
def permW (is : List Nat) : List Value → List Value → List Value := fun _ ws => is.map fun i => ws.getD i .none
theorem vals_getD {zs : List V} {ws : List Value} (r : Vals zs ws) (i : Nat) : RelV (zs.getD i .non) (ws.getD i .none) := by
  cases e : zs[i]? with
  | none =>
    have e2 := Vals.none_of r e
    rw [List.getD_eq_getElem?_getD, List.getD_eq_getElem?_getD, e, e2]
    rfl
  | some z =>
    obtain ⟨u, e2, ru⟩ := Vals.get r e
    rw [List.getD_eq_getElem?_getD, List.getD_eq_getElem?_getD, e, e2]
    exact ru
theorem perm_rel {zs : List V} {ws : List Value} (r : Vals zs ws) : ∀ is : List Nat, Vals (is.map fun i => zs.getD i .non) (is.map fun i => ws.getD i .none)
  | [] => .nil
  | i :: is => .cons (vals_getD r i) (perm_rel r is)
structure CalK (P : Program) (w : World) (K : PySem.W.Frag) (mg : Str → Option Value) (base : Heap) (CX : CXT) (k : Nat) (x : Str) (ps ks : List Str) (is : List Nat) (sp : Sp) : Prop where
  ex : ∃ (f : Addr) (fd : FuncData), FnOk P w K mg base CX k f fd ps sp ∧ mg x = some (.ref f) ∧ PySem.W.keepIn K (.ref f) = true ∧ KBn K fd ps 0 ks (permW is) (permV is)
/-- a def without defaults, called by keywords alone -/
theorem kbn_of {K : PySem.W.Frag} {x qual : Str} {params : Arguments} {body : List Stmt} {sc : Scope} {kws : List (Str × V)} {f : Addr} {fd : FuncData} {ps ks : List Str} {is : List Nat} (F : FunD K x qual params body sc [] kws f fd)
    (h : ∀ (kV doc pm : Value) (an : Option Addr) (cdv ct : Value) (ws : List Value), ws.length = ks.length →
      bindArgs (PySem.W.fnOf x qual params body sc .none kV doc pm an cdv ct) ⟨[], ks.zip ws⟩ = pure (ps.zip (is.map fun i => ws.getD i .none))) : KBn K fd ps 0 ks (permW is) (permV is) := by
  obtain ⟨oc, od, dV, kV, doc, pm, an, cdv, ct, osl, rfl, lk, hcd, hD, hK⟩ := F.ex
  cases hD with
  | inr z => exact absurd rfl z.1
  | inl z =>
    obtain ⟨_, rfl⟩ := z
    constructor
    · intro s us ws _ l1 l2
      have e : us = [] := List.length_eq_zero_iff.mp l1
      subst e
      exact .of_eq (h kV doc pm an cdv ct ws l2)
    · intro vs us zs ws _ r2
      exact perm_rel r2 is
/-- f(k = e, ..): the values as they are written, then the promise of the parameters' order -/
def tCK (m : Nat) (is : List Nat) (sp : Sp) (E : XK) (tk : TA) : TE := fun σ H Q => tk σ H fun zs H1 => zs.length = m ∧ sp (is.map fun i => zs.getD i .non) H1 Q E
section
variable {X : Cx} {CX : CXT} {k : Nat} {x : Str} {ps ks : List Str} {is : List Nat} {sp : Sp} {E : XK} {p pos : Pos} {kws : List Keyword} {tk : TA}
theorem pe_calK (c : CalK X.prog X.w X.K X.mg X.base CX k x ps ks is sp) (hr : Room k X.A) (hx : Passes CX X E) (hkw : PK X kws tk) (hg : Gl X x := by rfl)
    (hall : (backToKw pos (keywordEach kws X.env)).all (·.1.isSome) = true := by rfl) (hks : (backToKw pos (keywordEach kws X.env)).filterMap (·.1) = ks := by rfl) (hdb : (x == ("__debug__" : Str)) = false := by decide)
    (hpl : ((backTo pos (starEach [] X.env)).any (·.1) || (backToKw pos (keywordEach kws X.env)).any (·.1.isNone)) = false := by rfl) :
    PE X (.Call (.Name x p) [] kws pos) (tCK ks.length is sp E tk) := by
  obtain ⟨f, fd, F, hm, hk, hb⟩ := c.ex
  constructor
  intro pins s σ H Q I h
  refine wpAny_Call_Name_kw (ld_glob I hg hm ?_ hdb)
  refine PySem.W.callWith_KW0 (h₀ := X.base) I.ok.mod.kin hk hall (thn (hkw.run pos pins s σ H _ I h) ?_) hpl
  rintro ws s2 ⟨zs, H2, I2, rz, l2, q2⟩
  refine ⟨I2.kIn, ?_⟩
  rw [hks]
  exact run_fnN F hr hb hx I2 .nil rz rfl l2 q2
end

/-! ### numbers -/
/-- a power of a number of less than 2 ^ 1000, by a small exponent -/
def CPowW (i j : Int) : Prop := 0 ≤ j ∧ j ≤ 1000 ∧ i.natAbs < 2 ^ 1000
theorem bits_of {i : Int} {n : Nat} (h : i.natAbs < 2 ^ n) : Builtin.Int.intBits i ≤ n + 1 := by
  have b : Builtin.Int.intBits i ≤ i.natAbs.log2 + 1 := by
    unfold Builtin.Int.intBits
    split <;> omega
  by_cases z : i.natAbs = 0
  · rw [z] at b
    have : Nat.log2 0 = 0 := by decide
    omega
  · have := (Nat.log2_lt z).mpr h
    omega
section
variable {X : Cx}
theorem op_powW : OpR X (binaryOp .Pow) (rI CPowW fun i j => .int (i ^ j.toNat)) := opI fun i j _ _ _ _ _ hc q => by
  obtain ⟨h0, h1, h2⟩ := hc
  refine pow_int h0 ?_ q
  have hb := bits_of h2
  have hb' : (Builtin.Int.intBits i : Int) ≤ 1001 := by omega
  have : (Builtin.Int.intBits i : Int) * j ≤ 1001 * 1000 := Int.mul_le_mul hb' h1 h0 (by decide)
  omega
end

/-! ### data: what repr and == see -/
mutual
inductive Dq (K : PySem.W.Frag) (H : Hp) : V → PyData → Prop
  | non : Dq K H .non .none
  | bl (b : Bool) : Dq K H (.bl b) (.bool b)
  | int (i : Int) : Dq K H (.int i) (.int i)
  | str (x : Str) : Dq K H (.str x) (.str x)
  | lst {a : Addr} {xs : List V} {ds : List PyData} : H a = some (.lst xs) → DqAll K H xs ds → Dq K H (.ref a) (.list ds)
  | tup {a : Addr} {xs : List V} {ds : List PyData} : H a = some (.tup xs) → DqAll K H xs ds → Dq K H (.ref a) (.tuple ds)
  | dct {a : Addr} : H a = some (.dK []) → Dq K H (.ref a) (.dict [])
inductive DqAll (K : PySem.W.Frag) (H : Hp) : List V → List PyData → Prop
  | nil : DqAll K H [] []
  | cons {v : V} {vs : List V} {d : PyData} {ds : List PyData} : Dq K H v d → DqAll K H vs ds → DqAll K H (v :: vs) (d :: ds)
end
/-! ### repr of data, where no guard stands -/
mutual
theorem noDict1 {K : PySem.W.Frag} {H : Hp} : ∀ (d : PyData) (v : V), Dp K H v d → d.hasDict = false
  | .none, _, _ => by simp only [PyData.hasDict]
  | .bool _, _, _ => by simp only [PyData.hasDict]
  | .int _, _, _ => by simp only [PyData.hasDict]
  | .str _, _, _ => by simp only [PyData.hasDict]
  | .list ds, _, .lst _ ha => by simp only [PyData.hasDict]; exact noDictA ds _ ha
  | .tuple ds, _, .tup _ ha => by simp only [PyData.hasDict]; exact noDictA ds _ ha
  | .dict _, _, h => by cases h
theorem noDictA {K : PySem.W.Frag} {H : Hp} : ∀ (ds : List PyData) (vs : List V), DpAll K H vs ds → PyData.hasDictAll ds = false
  | [], _, _ => by simp only [PyData.hasDictAll]
  | d :: ds, _, .cons h1 h2 => by simp only [PyData.hasDictAll, noDict1 d _ h1, noDictA ds _ h2, Bool.or_self]
end
def rReprD (K : PySem.W.Frag) : List V → Hp → VK → Prop := fun xs H Q => (∃ v d, xs = [v] ∧ Dp K H v d ∧ d.showable = true ∧ d.depth ≤ 60 ∧ d.shown.length ≤ sizeLine ∧ Q (.str d.shown) H) ∨
  ∃ a, xs = [.ref a] ∧ H a = some (.dK []) ∧ Q (.str (PyData.shown (.dict []))) H
section
variable {X : Cx}
theorem call_reprD {k : Nat} (hgd : X.A.guards = some []) (hr : Room k X.A) : CallR X (.builtin "repr") (rReprD X.K) := by
  intro pins s σ H xs us Q I r h
  have hu := hr.units
  rcases h with ⟨v, d, rfl, hd, hs, hdp, hz, q⟩ | ⟨a, rfl, ha, q⟩
  · cases r with
    | cons rv rn =>
      rename_i u us'
      cases rn
      have nd := noDict1 d v hd
      obtain ⟨as, rd⟩ := Dp.reads I d v u hd rv
      cases hd with
      | non => cases rv; exact PySem.P.repr_of_none ⟨.str _, _, I.tok _, ⟨_, rfl⟩, q⟩
      | bl b => cases rv; exact PySem.P.repr_of_bool ⟨.str _, _, I.tok _, ⟨_, rfl⟩, by cases b <;> exact q⟩
      | int i =>
        obtain ⟨t, rfl⟩ := rv
        have hi : i.natAbs.log2 < 1920 := by
          simp only [PyData.showable] at hs
          exact of_decide_eq_true hs
        exact PySem.P.repr_of_int hi ⟨.str _, _, I.tok _, ⟨_, rfl⟩, q⟩
      | str x =>
        obtain ⟨t, rfl⟩ := rv
        exact PySem.P.repr_of_str ⟨.str _, _, I.tok _, ⟨_, rfl⟩, q⟩ hz
      | lst h1 h2 =>
        cases rv
        exact repr_of_reads' rd hs (PyData.noDict_hsm nd) hgd (by omega) (fun _ _ e => e) (fun h' u tk hk => ⟨.str _, _, I.kept hk, ⟨_, rfl⟩, q⟩) hz
      | tup h1 h2 =>
        cases rv
        exact repr_of_reads' rd hs (PyData.noDict_hsm nd) hgd (by omega) (fun _ _ e => e) (fun h' u tk hk => ⟨.str _, _, I.kept hk, ⟨_, rfl⟩, q⟩) hz
  · cases r with
    | cons rv rn =>
      rename_i u us'
      cases rn
      cases rv
      obtain ⟨_, hsy, vs, kv, o, es, ep, h1, h2, h3, h4, h5⟩ := (show ObjOk X.prog X.w H s.heap a (.dK []) from I.hok a _ ha)
      cases kv
      have rd : Reads s.heap (.ref a) (.dict []) [a] := by
        obtain ⟨es⟩ := es
        have h6 : Pairs (mixKind X.prog X.w) es [] := h5.1
        cases h6
        exact Reads.dict (kvs := []) h1 h2.1 h3 .nil .nil
      exact repr_of_reads' rd (by decide) (fun _ hm => by simp at hm; simp [hm] at hsy) hgd (by simp only [PyData.depth, PyData.depthKv]; omega) (fun _ _ e => e) (fun h' u tk hk => ⟨.str _, _, I.kept hk, ⟨_, rfl⟩, q⟩) (by decide)
end

/-! ### the law's end, where no guard stands -/
theorem law_callG {P : Program} {w : World} {K : PySem.W.Frag} {mg mb : Str → Option Value} {k : Nat} {fa a : Addr} {fd : FuncData} {x : Str} {sp : Sp} {s₁ : Shared} {vs : List Value} {ns : List Int}
    (KX : K.In s₁.heap) (hns : s₁.heap.Ns mainGlobals mg) (hb : s₁.heap.Ns builtinsNs mb) (hbb : ∀ x : Str, x ≠ "__name__" → mb x = bootBuiltins x) (noL : s₁.heap.NoLimit) (hg : s₁.gens = #[])
    (ha : s₁.heap.get? a = some { cls := .type "list", data := .seq vs.toArray }) (hi : IntsAre vs ns) (hl : ns.length ≤ sizeLine) (hr : Room k callerA)
    (F : ∀ base : Heap, K.In base → base.Ns mainGlobals mg → FnG P w K mg base k fa fd [x] sp) (hbind : ∀ (s : Shared) (u : Value), BindsTo s fd ⟨[u], []⟩ [(x, u)])
    (hsp : ∀ H : Hp, Only H → SqL K H a (ns.map V.int) → sp [.ref a] H (fun v _ => v = .bl true) E0) :
    codeAny (model P w) callerA (.call (.ref fa) ⟨[.ref a], []⟩) (fun r s' => r = .ok (.ret (.bool true)) ∧ OldK s₁.heap s'.heap ∧ s'.os = s₁.os ∧ AllBare s'.gens) s₁ := by
  have rv := vals_ints hi
  -- over an abstract heap that tracks at most the script
  suffices core : ∀ H : Hp, Only H → SqL K H a (ns.map V.int) → HOk P w H s₁.heap → (∀ b, H b ≠ none → b = a ∧ K.lookup a = none) →
      codeAny (model P w) callerA (.call (.ref fa) ⟨[.ref a], []⟩) (fun r s' => r = .ok (.ret (.bool true)) ∧ OldK s₁.heap s'.heap ∧ s'.os = s₁.os ∧ AllBare s'.gens) s₁ by
    cases hk : K.lookup a with
    | some o =>
      have e := KX a o hk
      rw [ha] at e
      cases e
      have none' : ∀ {b : Addr} {u : HO}, (none : Option HO) = some u → False := fun z => by cases z
      refine core (fun _ => none) (fun _ => .inl rfl) (.inr ⟨_, vs.toArray, _, hk, rfl, rfl, rfl, ?_, ?_⟩) (fun b u z => (none' (b := b) z).elim) (fun b z => (z rfl).elim)
      · rw [List.size_toArray, hi.length]
        exact hl
      · simpa using rv
    | none =>
      let H : Hp := fun b => if b = a then some (.frz { cls := .type "list", data := .seq vs.toArray } (.lst (ns.map V.int))) else none
      have at_ : ∀ {b : Addr} {u : HO}, H b = some u → b = a ∧ u = .frz { cls := .type "list", data := .seq vs.toArray } (.lst (ns.map V.int)) := by
        intro b u z
        by_cases hb : b = a
        · have z' := (if_pos hb).symm.trans z
          cases z'
          exact ⟨hb, rfl⟩
        · have z' := (if_neg hb).symm.trans z
          cases z'
      refine core H (fun b => ?_) (.inl (.inr ⟨_, if_pos rfl⟩)) (fun b u z => ?_) (fun b z => ?_)
      · by_cases hb : b = a
        · exact .inr ⟨_, _, if_pos hb⟩
        · exact .inl (if_neg hb)
      · obtain ⟨rfl, rfl⟩ := at_ z
        refine ⟨ha, ?_, vs, _, rv, ha⟩
        rw [List.length_map]
        exact hl
      · by_cases hb : b = a
        · exact ⟨hb, hk⟩
        · exact (z (if_neg hb)).elim
  intro H hO hS hok hA
  have free : ∀ {b : Addr} {o : Obj}, s₁.heap.get? b = some o → (b = a → K.lookup a = none → False) → H b = none := by
    intro b o _ h
    cases q : H b with
    | none => rfl
    | some u =>
      obtain ⟨e1, e2⟩ := hA b (by rw [q]; simp)
      exact (h e1 e2).elim
  have nsK : ∀ {b : Addr} {m : Str → Option Value}, s₁.heap.Ns b m → (hidT s₁.heap H).Ns b m := by
    rintro b m ⟨o, es, ep, e, d, r⟩
    refine ⟨o, es, ep, hidT_get e (free e ?_), d, r⟩
    rintro rfl _
    rw [ha] at e
    cases e
    cases (show Data.seq vs.toArray _ = Data.dict es ep from d)
  have hKb : K.In (hidT s₁.heap H) := by
    intro b o e
    refine hidT_get (KX b o e) (free (KX b o e) ?_)
    rintro rfl z
    rw [z] at e
    cases e
  have hM : Mod K mg (hidT s₁.heap H) := ⟨hKb, nsK hns, ⟨mb, nsK hb, hbb⟩, let ⟨mc, h1, h2⟩ := noL; ⟨mc, nsK h1, h2⟩⟩
  have nofr : ∀ b : Addr, b ∉ frs [] := fun b z => absurd (show b ∈ ([] : List Addr) from z) (by simp)
  have e0 : Env0 P w K mg (hidT s₁.heap H) callerA [] s₁ H := ⟨rfl, hM, fun b o e => of_hidT e, Nat.le_of_eq (hidT_size _ _), trivial, fun b hb => absurd hb (nofr b), hok, .of_eq hg⟩
  refine codeAny_mono ((F _ hKb (nsK hns)).run callerA [] s₁ H ⟨[.ref a], []⟩ [.ref a] [.ref a] _ _ rfl hr e0 (hbind s₁ (.ref a)) (.cons rfl .nil) (hsp H hO hS)) ?_
  intro r s' h
  match r, h with
  | .error _, h => exact h.elim
  | .ok .next, h => exact h.elim
  | .ok .brk, h => exact h.elim
  | .ok .cont, h => exact h.elim
  | .ok (.ret u), ⟨v, H', os, bare, un, hok', r', q⟩ =>
    have q' : v = .bl true := q
    subst q'
    obtain rfl : u = Value.bool true := r'
    refine ⟨rfl, OldK.of_keep ?_, os, bare⟩
    intro b o e
    cases q : H b with
    | none => exact un.keep b o e q (nofr b) (by simp)
    | some u =>
      rcases hO b with z | ⟨ob, xs, z⟩
      · rw [q] at z
        cases z
      · obtain ⟨e1, _⟩ := hok b _ z
        obtain ⟨e2, _⟩ := hok' b _ (un.frzs b ob _ z)
        rw [e] at e1
        cases e1
        exact e2
theorem walk_ofG {l : PySem.W.OpenLaw} {n k : Nat} {q : Program} {loose : List Str} {XP : (Str → Option Value) → Heap → Prop} {YP : World → Heap → Prop} {d : DefRec} {x : Str}
    (hn : l.most = some n) (hn2 : n ≤ sizeLine) (hdf : d.params.defaults = []) (hr : Room k callerA)
    (F : ∀ (w : World) (mg : Str → Option Value) (fa : Addr) (h : Heap), YP w h → h.Ns mainGlobals mg → mg d.name = some (.ref fa) →
      ∃ (K : PySem.W.Frag) (fd : FuncData) (sp : Sp), K.In h ∧ (∀ (s : Shared) (u : Value), BindsTo s fd ⟨[u], []⟩ [(x, u)]) ∧
        (∀ (H : Hp) (a : Addr) (ns : List Int), ns.length ≤ n → (∀ z ∈ ns, Builtin.Int.intBits z ≤ 1048576) → Only H → SqL K H a (ns.map V.int) → sp [.ref a] H (fun v _ => v = .bl true) E0) ∧
        ∀ base : Heap, K.In base → base.Ns mainGlobals mg → FnG l.prog w K mg base k fa fd [x] sp) :
    PySem.W.WalkO q loose XP YP l.row.toRowW d [] (fun f vs => PySem.call f vs) := by
  refine Att.attach_callB hn hdf ?_
  intro w s₀ s₁ mg mb fa o pm cd doc a vs ns G Y ho hd hcd hmg hobj hints hlen hbits hg
  obtain ⟨K, fd, sp, KX, hb, hsp, hF⟩ := F w mg fa _ Y G.T.g hmg
  exact law_callG KX G.T.g G.T.b G.T.builtins G.T.nolimit hg hobj hints (Nat.le_trans hlen hn2) hr hF hb fun H hO hS => hsp H a ns hlen hbits hO hS
end Wc

/-! Shared words for the walks: constants, own errors, heaps, lists of iV, loops, comprehensions, data. -/
namespace Wc
open PySem PySem.Spec PyProof.Rows L2

/-! ### constants of the module -/
section
variable {X : Cx} {x : Str} {p : Pos}
theorem pe_gint {i : Int} (hm : ∃ t, X.mg x = some (.int i t)) (hg : Gl X x := by rfl) (hdb : (x == ("__debug__" : Str)) = false := by decide) : PE X (.Name x p) (tC (.int i)) := by
  obtain ⟨t, h⟩ := hm
  exact pe_glob (v := .int i) hg h ⟨t, rfl⟩ hdb
theorem pe_gstr {z : Str} (hm : ∃ t, X.mg x = some (.str z t)) (hg : Gl X x := by rfl) (hdb : (x == ("__debug__" : Str)) = false := by decide) : PE X (.Name x p) (tC (.str z)) := by
  obtain ⟨t, h⟩ := hm
  exact pe_glob (v := .str z) hg h ⟨t, rfl⟩ hdb
end

section
variable {X : Cx} {x : Str} {p : Pos}
theorem pe_ty {n : String} (hm : X.mg x = none) (hv : bootBuiltins x = some (.type n)) (hg : Gl X x := by rfl) (hn : x ≠ "__name__" := by decide) (hdb : (x == ("__debug__" : Str)) = false := by decide) : PE X (.Name x p) (tC (.ty n)) :=
  pe_bltn (v := .ty n) hg hm hv rfl hn hdb
end

/-! ### own errors -/
def xc (K : PySem.W.Frag) (x : Str) : Value := .ref (He.ga K x)
structure ExcF (K : PySem.W.Frag) (mg : Str → Option Value) (x : Str) : Prop where
  g : mg x = some (xc K x)
  q : PySem.W.excIn K (He.ga K x) He.veBase "ValueError.__new__" = true
  k : PySem.W.keepIn K (xc K x) = true
  b : PySem.W.subIn K (xc K x) (.type "BaseException") = some true
  t : PySem.W.typeIn K (xc K x) = some (.type "type")
theorem excF_of {K : PySem.W.Frag} {h : Heap} {mg : Str → Option Value} {x : Str} (X : K.In h) (G : h.Ns mainGlobals mg) (c1 : (He.Fa.glo x).ok K = true) (c2 : (He.Fa.exc x).ok K = true) : ExcF K mg x := by
  obtain ⟨h1, h2, h3, h4⟩ := He.exc_ok c2
  exact ⟨He.glo_ok X G c1, h1, h2, h3, h4⟩
section
variable {X : Cx}
theorem ps_raiseT {x m : Str} {j : Nat} {p p2 pos pos2 : Pos} {W : WX} (tk : Takes X W) (T : ExcF X.K X.mg x) (hc : X.calm = true := by rfl) (hg : Gl X x := by rfl) (hdb : (x == ("__debug__" : Str)) = false := by decide) :
    PS X (.Raise (some (.Call (.Name x p) [.Constant (.str m) j p2] [] pos)) none pos2) (fun _ σ H => W (xc X.K x) none σ H) :=
  ps_raise hc tk (pmk_own PySem.F.excBase_ValueError T.q T.g T.k (raises_own T.b T.t) hg hdb)
end

/-! ### heaps -/
section
variable {H H' H1 H2 : Hp} {a b p : Addr} {o u : HO}
theorem same_new (h : H p = none) : Same H (upd H p u) := fun b x e => by
  rw [upd_ne (ne_of_none e h)]
  exact e
theorem at_new (h : H a = some o) (hp : H p = none) : upd H p u a = some o := same_new hp a o h
theorem at_mut (h : H a = some o) (ne : a ≠ p) : upd H p u a = some o := by rw [upd_ne ne]; exact h
theorem at_sm (s : Same H H') (h : H a = some o) : H' a = some o := s a o h
/-- all but a stays -/
def But (a : Addr) (H H' : Hp) : Prop := ∀ b, b ≠ a → H' b = H b
theorem But.at {a b : Addr} {H H' : Hp} {o : HO} (s : But a H H') (ne : b ≠ a) (h : H b = some o) : H' b = some o := (s b ne).trans h
theorem But.trans {a : Addr} {H H1 H2 : Hp} (s : But a H H1) (t : But a H1 H2) : But a H H2 := fun b hb => (t b hb).trans (s b hb)
theorem But.refl (a : Addr) (H : Hp) : But a H H := fun _ _ => rfl
/-- what stood ahead, the pot aside, stands -/
def SameB (a : Addr) (H H' : Hp) : Prop := ∀ b o, b ≠ a → H b = some o → H' b = some o
theorem SameB.refl (a : Addr) (H : Hp) : SameB a H H := fun _ _ _ h => h
theorem SameB.trans {a : Addr} {H H1 H2 : Hp} (s : SameB a H H1) (t : SameB a H1 H2) : SameB a H H2 := fun b o n h => t b o n (s b o n h)
theorem SameB.of {a : Addr} {H H' : Hp} (s : Same H H') : SameB a H H' := fun b o _ h => s b o h
theorem SameB.but {a : Addr} {H H' : Hp} (s : But a H H') : SameB a H H' := fun b o n h => s.at n h
theorem SameB.mut {a p : Addr} {H H' : Hp} {u : HO} (s : SameB a H H') (h : H p = Option.none) : SameB a H (upd H' p u) := fun b o n e => by
  rw [upd_ne (ne_of_none e h)]
  exact s b o n e
/-- the pot was made behind H -/
theorem SameB.all {a : Addr} {H H1 H2 : Hp} (s0 : Same H H1) (n : H a = Option.none) (s : SameB a H1 H2) : Same H H2 := fun b o e => s b o (ne_of_none e n) (s0 b o e)
theorem at_but (s : But b H H') (ne : a ≠ b) (h : H a = some o) : H' a = some o := s.at ne h
theorem at_smb (s : SameB b H H') (ne : a ≠ b) (h : H a = some o) : H' a = some o := s a o ne h
/-- an object that H does not know may change behind it -/
theorem same_mut (s : Same H H') (h : H p = none) : Same H (upd H' p u) := fun b x e => by
  rw [upd_ne (ne_of_none e h)]
  exact s b x e
end
end Wc
local macro_rules | `(tactic| walk_at "at") => `(tactic| first
  | assumption
  | exact L2.upd_same
  | (refine Wc.at_new ?_ (by assumption); walk_at "at")
  | (refine Wc.at_sm (by assumption) ?_; walk_at "at")
  | (refine Wc.at_but (by assumption) (by walk_at "ne") ?_; walk_at "at")
  | (refine Wc.at_smb (by assumption) (by walk_at "ne") ?_; walk_at "at")
  | (refine Wc.at_mut ?_ (by walk_at "ne"); walk_at "at"))
local macro_rules | `(tactic| walk_at "ne") => `(tactic| first
  | assumption
  | (apply Ne.symm; assumption)
  | (refine L2.ne_of_none ?_ (by assumption); walk_at "at")
  | (refine Ne.symm (L2.ne_of_none ?_ (by assumption)); walk_at "at"))
namespace Wc
open PySem PySem.Spec PyProof.Rows L2

/-! ### lists of iV -/
abbrev iV (ns : List Int) : List V := ns.map V.int
/-- a list of iV stands at a -/
abbrev IL (H : Hp) (a : Addr) (ns : List Int) : Prop := H a = some (.lst (iV ns))
theorem IL.seq {K : PySem.W.Frag} {H : Hp} {a : Addr} {ns : List Int} (h : IL H a ns) : SqL K H a (iV ns) := .inl (.inl h)
theorem ints_get {ns : List Int} {i : Nat} {x : V} (h : (iV ns)[i]? = some x) : ∃ z, ns[i]? = some z ∧ x = .int z := by
  rw [List.getElem?_map] at h
  cases e : ns[i]? with
  | none => rw [e] at h; cases h
  | some z => rw [e] at h; exact ⟨z, rfl, (Option.some.inj h).symm⟩
theorem get_ints {ns : List Int} {i : Nat} {z : Int} (h : ns[i]? = some z) : (iV ns)[i]? = some (.int z) := by
  rw [List.getElem?_map, h]; rfl
theorem atI_int {ns : List Int} {i : Int} {z : Int} (h : atI ns i = some z) : atI (iV ns) i = some (.int z) := by
  unfold atI at h ⊢
  rw [List.length_map]
  cases e : ixN ns.length i with
  | none => rw [e] at h; cases h
  | some j => rw [e] at h; exact get_ints h
theorem atI_nn {α : Type} {xs : List α} {i : Int} {v : α} (h0 : 0 ≤ i) (h : xs[i.toNat]? = some v) : atI xs i = some v := by
  have e : i = (i.toNat : Int) := by omega
  rw [e]
  exact atI_nat h
theorem atI_end {α : Type} {xs : List α} {v : α} (h : xs.getLast? = some v) : atI xs (-1) = some v := by
  obtain ⟨ys, rfl⟩ := List.getLast?_eq_some_iff.mp h
  exact atI_last ys v
theorem ints_push (ns : List Int) (z : Int) : iV ns ++ [V.int z] = iV (ns ++ [z]) := by simp
theorem ints_app (ns ms : List Int) : iV ns ++ iV ms = iV (ns ++ ms) := by simp
theorem sIx_lt {n d : Nat} (o : Option Int) (hd : d ≤ n) : HT.sIx n d o ≤ n := HT.sIx_le n d hd o
/-- xs[lo:hi] of any list -/
def cutL {α : Type} (xs : List α) (lo hi : Option Int) : List α := (xs.drop (HT.sIx xs.length 0 lo)).take (HT.sIx xs.length xs.length hi - HT.sIx xs.length 0 lo)
theorem cutV_map {α : Type} (f : α → V) (xs : List α) (lo hi : Option Int) : cutV (xs.map f) lo hi = (cutL xs lo hi).map f := by
  unfold cutV cutL
  rw [List.length_map, ← List.map_drop, ← List.map_take]
theorem cutL_to {α : Type} (xs : List α) (k : Int) (h0 : 0 ≤ k) : cutL xs none (some k) = xs.take k.toNat := by
  have e : k = (k.toNat : Int) := by omega
  unfold cutL
  rw [e, HT.sIx_nat, HT.sIx_none]
  simp only [List.drop_zero, Nat.sub_zero, Int.toNat_natCast]
  by_cases hk : k.toNat ≤ xs.length
  · rw [Nat.min_eq_left hk]
  · rw [Nat.min_eq_right (by omega), List.take_length, List.take_of_length_le (by omega)]
theorem cutL_from {α : Type} (xs : List α) (k : Int) (h0 : 0 ≤ k) : cutL xs (some k) none = xs.drop k.toNat := by
  have e : k = (k.toNat : Int) := by omega
  unfold cutL
  rw [e, HT.sIx_nat, HT.sIx_none]
  simp only [Int.toNat_natCast]
  by_cases hk : k.toNat ≤ xs.length
  · rw [Nat.min_eq_left hk]
    exact List.take_of_length_le (by rw [List.length_drop]; omega)
  · rw [Nat.min_eq_right (by omega), List.drop_of_length_le (Nat.le_refl _), List.drop_of_length_le (by omega)]
    simp
theorem cutL_init {α : Type} (xs : List α) : cutL xs none (some (-1)) = xs.dropLast := by
  have e : HT.sIx xs.length xs.length (some (-1)) = xs.length - 1 := by
    show (if (-1 : Int) < 0 then ((-1 : Int) + (xs.length : Int)).toNat else min (-1 : Int).toNat xs.length) = xs.length - 1
    rw [if_pos (by decide)]
    omega
  unfold cutL
  rw [e, HT.sIx_none xs.length 0, List.drop_zero, Nat.sub_zero, List.dropLast_eq_take]

/-! ### what an expression gives, the heap only growing -/
abbrev Evs (te : TE) (σ : L2.St) (H : Hp) (v : V) : Prop := ∀ Q : VK, (∀ H', Same H H' → Q v H') → te σ H Q
abbrev Evt (tt : TT) (σ : L2.St) (H : Hp) (b : Bool) : Prop := ∀ Q : Bool → Hp → Prop, (∀ H', Same H H' → Q b H') → tt σ H Q

/-! ### steps -/
section
variable {te : TE} {tt : TT} {t u : TS} {σ : L2.St} {H : Hp} {Q : VK} {D : Ends} {i : Nat}
/-- a value by what is known of it -/
theorem cutE (P : VK) (h : ∀ Q' : VK, (∀ v H', P v H' → Q' v H') → te σ H Q') (k : ∀ v H', P v H' → Q v H') : te σ H Q := h Q k
theorem cutT {Q : Bool → Hp → Prop} (P : Bool → Hp → Prop) (h : ∀ Q' : Bool → Hp → Prop, (∀ v H', P v H' → Q' v H') → tt σ H Q') (k : ∀ v H', P v H' → Q v H') : tt σ H Q := h Q k
theorem cb1 {r : List V → Hp → VK → Prop} {ta : TE} (h : ta σ H fun x H1 => r [x] H1 Q) : tCB r (tCons ta tNil) σ H Q := h
theorem cb2 {r : List V → Hp → VK → Prop} {ta tb : TE} (h : ta σ H fun x H1 => tb σ H1 fun y H2 => r [x, y] H2 Q) : tCB r (tCons ta (tCons tb tNil)) σ H Q := h
theorem ca1 {sp : Sp} {E : XK} {ta : TE} (h : ta σ H fun x H1 => sp [x] H1 Q E) : tCall sp [] E (tCons ta tNil) σ H Q := h
theorem ca2 {sp : Sp} {E : XK} {ta tb : TE} (h : ta σ H fun x H1 => tb σ H1 fun y H2 => sp [x, y] H2 Q E) : tCall sp [] E (tCons ta (tCons tb tNil)) σ H Q := h
theorem ca3 {sp : Sp} {E : XK} {ta tb tc : TE} (h : ta σ H fun x H1 => tb σ H1 fun y H2 => tc σ H2 fun z H3 => sp [x, y, z] H3 Q E) : tCall sp [] E (tCons ta (tCons tb (tCons tc tNil))) σ H Q := h
theorem op_go {r : R2} {ta tb : TE} (h : ta σ H fun x H1 => tb σ H1 fun y H2 => r x y H2 Q) : tOp r ta tb σ H Q := h
theorem tt_go {ta : TE} {Q : Bool → Hp → Prop} (h : ta σ H fun x H1 => ∃ k, x = .bl k ∧ Q k H1) : tTest ta σ H Q := h
theorem tb_go {ta : TE} {Q : Bool → Hp → Prop} (h : ta σ H fun x H1 => ∃ k, x = .bl k ∧ Q k H1) : tB ta σ H Q := h
theorem cutC {ta : TE} {tr : TA} {Q : List V → Hp → Prop} (P : VK) (h : ∀ Q' : VK, (∀ v H', P v H' → Q' v H') → ta σ H Q') (k : ∀ v H', P v H' → tr σ H' (fun xs H2 => Q (v :: xs) H2)) : tCons ta tr σ H Q := h _ k
/-- a statement by what holds behind it -/
theorem cutN (M : L2.St → Hp → Prop) (h : ∀ N' : L2.St → Hp → Prop, (∀ σ' H', M σ' H' → N' σ' H') → t { D with nx := N' } σ H) (k : ∀ σ' H', M σ' H' → u D σ' H') : tSeq t u D σ H := h _ k
theorem sq_set (h : te σ H fun x H1 => u D (σ.set i (some x)) H1) : tSeq (tAsg te (gName i)) u D σ H := h
theorem sq_drop (h : te σ H fun _ H1 => u D σ H1) : tSeq (tDrop te) u D σ H := h
theorem sq_if {t1 t2 : TS} (h : tt σ H fun b H1 => if b = true then t1 { D with nx := u D } σ H1 else t2 { D with nx := u D } σ H1) : tSeq (tIfS tt t1 t2) u D σ H := h
theorem sq_if0 {t1 : TS} (h : tt σ H fun b H1 => if b = true then t1 { D with nx := u D } σ H1 else u D σ H1) : tSeq (tIfS tt t1 tNext) u D σ H := h
theorem rt_ret (h : te σ H D.rt) : tRet te D σ H := h
theorem nx_set (h : te σ H fun x H1 => D.nx (σ.set i (some x)) H1) : tAsg te (gName i) D σ H := h
end

/-! ### comprehensions -/
/-- [e for x in xs], e giving ys place by place -/
theorem lc_mapL {K : PySem.W.Frag} {a D : Addr} {xs : List V} {j : Nat} {te : TE} {vs : List Nat} {σ : L2.St} {H1 : Hp} {Qd : Hp → Prop} (ys : List V) (hl : ys.length = xs.length) (hz : xs.length ≤ sizeLine) (hS : SqL K H1 a xs) (nD : H1 D = none)
    (hs : ∀ (i : Nat) (x y : V) (H' : Hp), xs[i]? = some x → ys[i]? = some y → Same H1 H' → Evs te ((wipe σ vs).set j (some x)) H' y) (hd : ∀ H', Same H1 H' → H' D = some (.lst ys) → Qd H')
    (hw : ∀ x : V, wipe ((wipe σ vs).set j (some x)) vs = wipe σ vs := by intro x; rfl) :
    ∃ W : Nat → Nat → Hp → Prop, (∃ m, W 0 m (upd H1 D (.lst []))) ∧ ∀ i m H, W i m H →
      ((Itl K a).stop i H ∧ Qd H) ∨ ((Itl K a).go i H ∧ ∃ Nx : Hp → Prop, (∀ H', Nx H' → ∃ m', m' < m ∧ W (i + 1) m' H') ∧ ∀ x H', (Itl K a).yld i H x H' → gName j x (wipe σ vs) H' fun σ2 H2 => wipe σ2 vs = wipe σ vs ∧ tYes σ2 H2 fun b H3 =>
        if b = true then te σ2 H3 fun y H4 => ∃ acc, H4 D = some (.lst acc) ∧ acc.length < sizeLine ∧ Nx (upd H4 D (.lst (acc ++ [y]))) else Nx H3) := by
  refine lc_list (xs := xs) (fun i H => Same H1 H ∧ H D = some (.lst (ys.take i))) ⟨same_new nD, ?_⟩ (fun i H _ hp => hp.1.seq hS) ?_ ?_
  · rw [upd_same, List.take_zero]
  · rintro i x H hx ⟨sm, eD⟩
    have hi : i < xs.length := (List.getElem?_eq_some_iff.mp hx).1
    have hy : ys[i]? = some (ys[i]'(by omega)) := List.getElem?_eq_getElem (by omega)
    refine ⟨hw x, ?_⟩
    unfold tYes
    dsimp only
    rw [if_pos rfl]
    refine hs i x _ H hx hy sm _ fun H4 s4 => ⟨ys.take i, s4 _ _ eD, ?_, ?_, ?_⟩
    · rw [List.length_take]
      omega
    · exact same_mut (sm.trans s4) nD
    · rw [upd_same, List.take_add_one, hy]
      rfl
  · rintro H ⟨sm, eD⟩
    refine hd H sm ?_
    rw [eD, ← hl, List.take_length]
/-- [e for x in xs if t] -/
theorem lc_filtL {K : PySem.W.Frag} {a D : Addr} {xs : List V} {j : Nat} {tt : TT} {te : TE} {vs : List Nat} {σ : L2.St} {H1 : Hp} {Qd : Hp → Prop} (f : V → Option V) (hz : xs.length ≤ sizeLine) (hS : SqL K H1 a xs) (nD : H1 D = none)
    (ht : ∀ (i : Nat) (x : V) (H' : Hp), xs[i]? = some x → Same H1 H' → Evt tt ((wipe σ vs).set j (some x)) H' (f x).isSome) (hs : ∀ (i : Nat) (x y : V) (H' : Hp), xs[i]? = some x → f x = some y → Same H1 H' → Evs te ((wipe σ vs).set j (some x)) H' y)
    (hd : ∀ H', Same H1 H' → H' D = some (.lst (xs.filterMap f)) → Qd H') (hw : ∀ x : V, wipe ((wipe σ vs).set j (some x)) vs = wipe σ vs := by intro x; rfl) :
    ∃ W : Nat → Nat → Hp → Prop, (∃ m, W 0 m (upd H1 D (.lst []))) ∧ ∀ i m H, W i m H →
      ((Itl K a).stop i H ∧ Qd H) ∨ ((Itl K a).go i H ∧ ∃ Nx : Hp → Prop, (∀ H', Nx H' → ∃ m', m' < m ∧ W (i + 1) m' H') ∧ ∀ x H', (Itl K a).yld i H x H' → gName j x (wipe σ vs) H' fun σ2 H2 => wipe σ2 vs = wipe σ vs ∧ tt σ2 H2 fun b H3 =>
        if b = true then te σ2 H3 fun y H4 => ∃ acc, H4 D = some (.lst acc) ∧ acc.length < sizeLine ∧ Nx (upd H4 D (.lst (acc ++ [y]))) else Nx H3) := by
  refine lc_list (xs := xs) (fun i H => Same H1 H ∧ H D = some (.lst ((xs.take i).filterMap f))) ⟨same_new nD, ?_⟩ (fun i H _ hp => hp.1.seq hS) ?_ ?_
  · rw [upd_same, List.take_zero]
    rfl
  · rintro i x H hx ⟨sm, eD⟩
    have hi : i < xs.length := (List.getElem?_eq_some_iff.mp hx).1
    have et : xs.take (i + 1) = xs.take i ++ [x] := by rw [List.take_add_one, hx]; rfl
    refine ⟨hw x, ht i x H hx sm _ fun H3 s3 => ?_⟩
    cases e : f x with
    | none =>
      refine iteF ⟨sm.trans s3, ?_⟩
      rw [et, List.filterMap_append]
      rw [s3 _ _ eD]
      simp [e]
    | some y =>
      refine iteT ?_
      refine hs i x y H3 hx e (sm.trans s3) _ fun H4 s4 => ⟨(xs.take i).filterMap f, s4 _ _ (s3 _ _ eD), ?_, ?_, ?_⟩
      · refine Nat.lt_of_le_of_lt (List.length_filterMap_le _ _) ?_
        rw [List.length_take]
        omega
      · exact same_mut ((sm.trans s3).trans s4) nD
      · rw [upd_same, et, List.filterMap_append]
        simp [e]
  · rintro H ⟨sm, eD⟩
    refine hd H sm ?_
    rw [eD, List.take_length]
/-- [e for i in range(..)] -/
theorem lc_mapR {D : Addr} {lo : Int} {n j : Nat} {te : TE} {vs : List Nat} {σ : L2.St} {H1 : Hp} {Qd : Hp → Prop} (F : Nat → V) (hz : n ≤ sizeLine) (nD : H1 D = none)
    (hs : ∀ i H', i < n → Same H1 H' → Evs te ((wipe σ vs).set j (some (.int (lo + i)))) H' (F i)) (hd : ∀ H', Same H1 H' → H' D = some (.lst ((List.range n).map F)) → Qd H')
    (hw : ∀ x : V, wipe ((wipe σ vs).set j (some x)) vs = wipe σ vs := by intro x; rfl) :
    ∃ W : Nat → Nat → Hp → Prop, (∃ m, W 0 m (upd H1 D (.lst []))) ∧ ∀ i m H, W i m H →
      ((Itr lo n).stop i H ∧ Qd H) ∨ ((Itr lo n).go i H ∧ ∃ Nx : Hp → Prop, (∀ H', Nx H' → ∃ m', m' < m ∧ W (i + 1) m' H') ∧ ∀ x H', (Itr lo n).yld i H x H' → gName j x (wipe σ vs) H' fun σ2 H2 => wipe σ2 vs = wipe σ vs ∧ tYes σ2 H2 fun b H3 =>
        if b = true then te σ2 H3 fun y H4 => ∃ acc, H4 D = some (.lst acc) ∧ acc.length < sizeLine ∧ Nx (upd H4 D (.lst (acc ++ [y]))) else Nx H3) := by
  refine lc_range (lo := lo) (n := n) (fun i H => Same H1 H ∧ H D = some (.lst ((List.range i).map F))) ⟨same_new nD, ?_⟩ ?_ ?_
  · rw [upd_same]
    rfl
  · rintro i H hi ⟨sm, eD⟩
    refine ⟨hw _, ?_⟩
    unfold tYes
    dsimp only
    rw [if_pos rfl]
    refine hs i H hi sm _ fun H4 s4 => ⟨(List.range i).map F, s4 _ _ eD, ?_, ?_, ?_⟩
    · rw [List.length_map, List.length_range]
      omega
    · exact same_mut (sm.trans s4) nD
    · rw [upd_same, List.range_succ, List.map_append]
      rfl
  · rintro H ⟨sm, eD⟩
    exact hd H sm eD

/-! ### data -/
/-- what repr, ==, isinstance may be asked of: data, or an empty dict -/
inductive Av (K : PySem.W.Frag) (H : Hp) : V → Option PyData → Prop where
  | d {v : V} {d : PyData} : Dp K H v d → SeqAt.shaped d = true → Av K H v (some d)
  | e {a : Addr} : H a = some (.dK []) → Av K H (.ref a) none
theorem SqL.same {K : PySem.W.Frag} {H H' : Hp} {a : Addr} {xs : List V} (s : Same H H') (h : SqL K H a xs) : SqL K H' a xs := s.seq h
theorem SqT.same {K : PySem.W.Frag} {H H' : Hp} {a : Addr} {xs : List V} (s : Same H H') (h : SqT K H a xs) : SqT K H' a xs := by
  rcases h with (h | ⟨o, h⟩) | h
  · exact .inl (.inl (s _ _ h))
  · exact .inl (.inr ⟨o, s _ _ h⟩)
  · exact .inr h
mutual
theorem Dp.same {K : PySem.W.Frag} {H H' : Hp} (s : Same H H') : ∀ (d : PyData) (v : V), Dp K H v d → Dp K H' v d
  | .none, _, .non => .non
  | .bool b, _, .bl _ => .bl b
  | .int i, _, .int _ => .int i
  | .str x, _, .str _ => .str x
  | .list ds, _, .lst h ha => .lst (s.seq h) (DpAll.same s ds _ ha)
  | .tuple ds, _, .tup h ha => .tup (SqT.same s h) (DpAll.same s ds _ ha)
  | .dict _, _, h => by cases h
theorem DpAll.same {K : PySem.W.Frag} {H H' : Hp} (s : Same H H') : ∀ (ds : List PyData) (vs : List V), DpAll K H vs ds → DpAll K H' vs ds
  | [], _, .nil => .nil
  | d :: ds, _, .cons h1 h2 => .cons (Dp.same s d _ h1) (DpAll.same s ds _ h2)
end
theorem Av.same {K : PySem.W.Frag} {H H' : Hp} {v : V} {o : Option PyData} (s : Same H H') (h : Av K H v o) : Av K H' v o := by
  cases h with
  | d h1 h2 => exact .d (Dp.same s _ _ h1) h2
  | e h1 => exact .e (s _ _ h1)
theorem dpAll_get {K : PySem.W.Frag} {H : Hp} : ∀ {ds : List PyData} {vs : List V} {i : Nat} {v : V}, DpAll K H vs ds → vs[i]? = some v → ∃ d, ds[i]? = some d ∧ Dp K H v d
  | _, _, _, _, .nil, h => by simp at h
  | d :: _, _, 0, _, .cons h1 _, h => ⟨d, rfl, by simp at h; rw [← h]; exact h1⟩
  | _ :: _, _, i + 1, _, .cons _ h2, h => by
    obtain ⟨d, e, q⟩ := dpAll_get (i := i) h2 (by simpa using h)
    exact ⟨d, by simpa using e, q⟩
theorem dpAll_len {K : PySem.W.Frag} {H : Hp} : ∀ {ds : List PyData} {vs : List V}, DpAll K H vs ds → vs.length = ds.length
  | _, _, .nil => rfl
  | _, _, .cons _ h => by rw [List.length_cons, List.length_cons, dpAll_len h]
theorem dpAll_ints {K : PySem.W.Frag} {H : Hp} : ∀ ns : List Int, DpAll K H (iV ns) (ns.map PyData.int)
  | [] => .nil
  | n :: ns => .cons (.int n) (dpAll_ints ns)
theorem dp_ints {K : PySem.W.Frag} {H : Hp} {a : Addr} {ns : List Int} (h : IL H a ns) : Dp K H (.ref a) (.list (ns.map .int)) := .lst h.seq (dpAll_ints ns)
theorem canLay_ints : ∀ ns : List Int, PyData.canLayAll0 (ns.map PyData.int) = true
  | [] => by simp [PyData.canLayAll0]
  | n :: ns => by simp [PyData.canLayAll0, PyData.canLay0, canLay_ints ns]
theorem depth_ints : ∀ ns : List Int, PyData.depthAll (ns.map PyData.int) = 0
  | [] => by simp [PyData.depthAll]
  | n :: ns => by simp [PyData.depthAll, PyData.depth, depth_ints ns]
theorem shaped_ints (ns : List Int) : SeqAt.shaped (.list (ns.map .int)) = true := by
  unfold SeqAt.shaped
  rw [PyData.canLay0, canLay_ints, PyData.depth, depth_ints]
  decide
theorem eqv_ints : ∀ ns ms : List Int, PyData.eqvAll (ns.map .int) (ms.map .int) = decide (ns = ms)
  | [], [] => by simp [PyData.eqvAll]
  | [], _ :: _ => by simp [PyData.eqvAll]
  | _ :: _, [] => by simp [PyData.eqvAll]
  | n :: ns, m :: ms => by
    simp only [List.map_cons, PyData.eqvAll, PyData.eqv, eqv_ints ns ms]
    by_cases h : n = m <;> simp [h]
/-- a value's class -/
def tyV (K : PySem.W.Frag) (H : Hp) (v : V) (o : Option PyData) : Value := match o with
  | none => .type "dict"
  | some .none => .type "NoneType"
  | some (.bool _) => .type "bool"
  | some (.int _) => .type "int"
  | some (.str _) => .type "str"
  | some (.list _) => .type "list"
  | some (.tuple _) => .type "tuple"
  | some (.dict _) => .type "dict"
end Wc

/-! isinstance of data; sizes of what repr shows. -/
namespace Wc
open PySem PySem.Spec PyProof.Rows L2
def cls : Option PyData → String
  | Option.none => "dict"
  | some .none => "NoneType"
  | some (.bool _) => "bool"
  | some (.int _) => "int"
  | some (.str _) => "str"
  | some (.list _) => "list"
  | some (.tuple _) => "tuple"
  | some (.dict _) => "dict"
theorem SqL.ty {K : PySem.W.Frag} {H : Hp} {a : Addr} {xs : List V} (h : SqL K H a xs) : TyX K H (.ref a) (.type "list") := by
  rcases h with (h | ⟨o, h⟩) | ⟨o, its, n, h, c, _⟩
  · exact .base (.lst h)
  · exact .base (.frz h)
  · exact .kList h c
theorem SqT.ty {K : PySem.W.Frag} {H : Hp} {a : Addr} {xs : List V} (h : SqT K H a xs) : TyX K H (.ref a) (.type "tuple") := by
  rcases h with (h | ⟨o, h⟩) | ⟨o, its, n, h, c, _⟩
  · exact .base (.tup h)
  · exact .fTuple h
  · exact .kTuple h c
theorem Av.ty {K : PySem.W.Frag} {H : Hp} {v : V} {o : Option PyData} (h : Av K H v o) : TyX K H v (.type (cls o)) := by
  cases h with
  | e h => exact .base (.dK h)
  | d h _ =>
    cases h with
    | non => exact .base .non
    | bl b => exact .base (.bl b)
    | int i => exact .base (.int i)
    | str x => exact .base (.str x)
    | lst h _ => exact SqL.ty h
    | tup h _ => exact SqT.ty h
def isI (o : Option PyData) (n : String) : Bool := (kitB (cls o) n).getD false
section
variable {K : PySem.W.Frag}
theorem isi_cls {n : String} (h : ∀ m ∈ ["dict", "NoneType", "bool", "int", "str", "list", "tuple"], (kitB m n).isSome = true) (o : Option PyData) : PySem.W.kitOne K (.type (cls o)) (.type n) = some (isI o n) := by
  refine kit_ty ?_
  have hm : cls o ∈ ["dict", "NoneType", "bool", "int", "str", "list", "tuple"] := by
    cases o with
    | none => simp [cls]
    | some d => cases d <;> simp [cls]
  obtain ⟨b, e⟩ := Option.isSome_iff_exists.mp (h _ hm)
  unfold isI
  rw [e]
  rfl
theorem isi_int (o : Option PyData) : PySem.W.kitOne K (.type (cls o)) (.type "int") = some (isI o "int") := isi_cls (by decide +kernel) o
theorem isi_bool (o : Option PyData) : PySem.W.kitOne K (.type (cls o)) (.type "bool") = some (isI o "bool") := isi_cls (by decide +kernel) o
theorem isi_list (o : Option PyData) : PySem.W.kitOne K (.type (cls o)) (.type "list") = some (isI o "list") := isi_cls (by decide +kernel) o
theorem isi_tuple (o : Option PyData) : PySem.W.kitOne K (.type (cls o)) (.type "tuple") = some (isI o "tuple") := isi_cls (by decide +kernel) o
theorem isi_str (o : Option PyData) : PySem.W.kitOne K (.type (cls o)) (.type "str") = some (isI o "str") := isi_cls (by decide +kernel) o
end
theorem isI_int : ∀ o, isI o "int" = (match o with | some (.int _) => true | some (.bool _) => true | _ => false)
  | Option.none => by decide +kernel
  | some .none => by show (kitB "NoneType" "int").getD false = false; decide +kernel
  | some (.bool _) => by show (kitB "bool" "int").getD false = true; decide +kernel
  | some (.int _) => by show (kitB "int" "int").getD false = true; decide +kernel
  | some (.str _) => by show (kitB "str" "int").getD false = false; decide +kernel
  | some (.list _) => by show (kitB "list" "int").getD false = false; decide +kernel
  | some (.tuple _) => by show (kitB "tuple" "int").getD false = false; decide +kernel
  | some (.dict _) => by show (kitB "dict" "int").getD false = false; decide +kernel
theorem isI_bool : ∀ o, isI o "bool" = (match o with | some (.bool _) => true | _ => false)
  | Option.none => by decide +kernel
  | some .none => by show (kitB "NoneType" "bool").getD false = false; decide +kernel
  | some (.bool _) => by show (kitB "bool" "bool").getD false = true; decide +kernel
  | some (.int _) => by show (kitB "int" "bool").getD false = false; decide +kernel
  | some (.str _) => by show (kitB "str" "bool").getD false = false; decide +kernel
  | some (.list _) => by show (kitB "list" "bool").getD false = false; decide +kernel
  | some (.tuple _) => by show (kitB "tuple" "bool").getD false = false; decide +kernel
  | some (.dict _) => by show (kitB "dict" "bool").getD false = false; decide +kernel
theorem isI_list : ∀ o, isI o "list" = (match o with | some (.list _) => true | _ => false)
  | Option.none => by decide +kernel
  | some .none => by show (kitB "NoneType" "list").getD false = false; decide +kernel
  | some (.bool _) => by show (kitB "bool" "list").getD false = false; decide +kernel
  | some (.int _) => by show (kitB "int" "list").getD false = false; decide +kernel
  | some (.str _) => by show (kitB "str" "list").getD false = false; decide +kernel
  | some (.list _) => by show (kitB "list" "list").getD false = true; decide +kernel
  | some (.tuple _) => by show (kitB "tuple" "list").getD false = false; decide +kernel
  | some (.dict _) => by show (kitB "dict" "list").getD false = false; decide +kernel
theorem isI_tuple : ∀ o, isI o "tuple" = (match o with | some (.tuple _) => true | _ => false)
  | Option.none => by decide +kernel
  | some .none => by show (kitB "NoneType" "tuple").getD false = false; decide +kernel
  | some (.bool _) => by show (kitB "bool" "tuple").getD false = false; decide +kernel
  | some (.int _) => by show (kitB "int" "tuple").getD false = false; decide +kernel
  | some (.str _) => by show (kitB "str" "tuple").getD false = false; decide +kernel
  | some (.list _) => by show (kitB "list" "tuple").getD false = false; decide +kernel
  | some (.tuple _) => by show (kitB "tuple" "tuple").getD false = true; decide +kernel
  | some (.dict _) => by show (kitB "dict" "tuple").getD false = false; decide +kernel
theorem isI_str : ∀ o, isI o "str" = (match o with | some (.str _) => true | _ => false)
  | Option.none => by decide +kernel
  | some .none => by show (kitB "NoneType" "str").getD false = false; decide +kernel
  | some (.bool _) => by show (kitB "bool" "str").getD false = false; decide +kernel
  | some (.int _) => by show (kitB "int" "str").getD false = false; decide +kernel
  | some (.str _) => by show (kitB "str" "str").getD false = true; decide +kernel
  | some (.list _) => by show (kitB "list" "str").getD false = false; decide +kernel
  | some (.tuple _) => by show (kitB "tuple" "str").getD false = false; decide +kernel
  | some (.dict _) => by show (kitB "dict" "str").getD false = false; decide +kernel

/-! ### how long a shown thing may be -/
mutual
def wt : PyData → Nat
  | .none => 4
  | .bool _ => 5
  | .int _ => 2000
  | .str x => 12 * x.length + 2
  | .list xs => wtAll xs + 3
  | .tuple xs => wtAll xs + 3
  | .dict _ => 0
def wtAll : List PyData → Nat
  | [] => 0
  | x :: xs => wt x + 2 + wtAll xs
end
mutual
/-- what repr shows without fault -/
def okD : PyData → Bool
  | .none => true
  | .bool _ => true
  | .int i => decide (i.natAbs.log2 < 1920)
  | .str x => x.cps.toList.all fun c => decide (c < 16 ^ 8)
  | .list xs => okAll xs
  | .tuple xs => okAll xs
  | .dict _ => false
def okAll : List PyData → Bool
  | [] => true
  | x :: xs => okD x && okAll xs
end
theorem shownAll_len : ∀ xs : List PyData, (PyData.shownAll xs).length = xs.length
  | [] => by simp [PyData.shownAll]
  | x :: xs => by simp [PyData.shownAll, shownAll_len xs]
mutual
theorem okD_show : ∀ d : PyData, okD d = true → d.showable = true ∧ d.shown.length ≤ wt d
  | .none, _ => by
    simp only [PyData.showable, PyData.shown, wt, true_and]
    decide
  | .bool b, _ => by
    simp only [PyData.showable, PyData.shown, wt, true_and]
    cases b <;> decide
  | .int i, h => by
    have h' : i.natAbs.log2 < 1920 := of_decide_eq_true (by simpa only [okD] using h)
    refine ⟨by simp only [PyData.showable]; exact decide_eq_true h', ?_⟩
    simp only [PyData.shown, wt]
    have := int_text_len_1921 h'
    exact Nat.le_trans this (by decide)
  | .str x, h => by
    refine ⟨by simp only [PyData.showable], ?_⟩
    simp only [PyData.shown, wt]
    have h' : ∀ c ∈ x.cps.toList, c < 16 ^ 8 := fun c hc => of_decide_eq_true (List.all_eq_true.mp (by simpa only [okD] using h) c hc)
    have := StrLaws.reprText_len x h'
    omega
  | .list xs, h => by
    obtain ⟨h1, h2⟩ := okAll_show xs (by simpa only [okD] using h)
    refine ⟨by simpa only [PyData.showable] using h1, ?_⟩
    simp only [PyData.shown, wt]
    have := listText_len_le (PyData.shownAll xs)
    rw [shownAll_len] at this
    omega
  | .tuple xs, h => by
    obtain ⟨h1, h2⟩ := okAll_show xs (by simpa only [okD] using h)
    refine ⟨by simpa only [PyData.showable] using h1, ?_⟩
    simp only [PyData.shown, wt]
    have := tupleText_len_le (PyData.shownAll xs)
    rw [shownAll_len] at this
    omega
  | .dict _, h => by simp [okD] at h
theorem okAll_show : ∀ xs : List PyData, okAll xs = true → PyData.showableAll xs = true ∧ ((PyData.shownAll xs).map (·.length)).sum + 2 * xs.length ≤ wtAll xs
  | [], _ => by simp [PyData.showableAll, PyData.shownAll, wtAll]
  | x :: xs, h => by
    have h' : okD x = true ∧ okAll xs = true := by simpa [okAll] using h
    obtain ⟨a1, a2⟩ := okD_show x h'.1
    obtain ⟨b1, b2⟩ := okAll_show xs h'.2
    refine ⟨by simp [PyData.showableAll, a1, b1], ?_⟩
    simp only [PyData.shownAll, wtAll, List.map_cons, List.sum_cons, List.length_cons]
    omega
end
theorem okAll_ints : ∀ ns : List Int, (∀ n ∈ ns, n.natAbs.log2 < 1920) → okAll (ns.map .int) = true
  | [], _ => by simp [okAll]
  | n :: ns, h => by
    simp only [List.map_cons, okAll, okD, Bool.and_eq_true, decide_eq_true_eq]
    exact ⟨h n (List.mem_cons_self ..), okAll_ints ns fun m hm => h m (List.mem_cons_of_mem _ hm)⟩
theorem wtAll_ints : ∀ ns : List Int, wtAll (ns.map .int) = 2002 * ns.length
  | [] => by simp [wtAll]
  | n :: ns => by
    simp only [List.map_cons, wtAll, wt, wtAll_ints ns, List.length_cons]
    omega
theorem log_small {n : Int} {k : Nat} (h : n.natAbs < 2 ^ k) (hk : 0 < k) (h2 : k ≤ 1920) : n.natAbs.log2 < 1920 := Nat.lt_of_lt_of_le (PySem.Flt.log2_lt_of hk h) h2
theorem sm_of {n : Int} (h : n.natAbs ≤ 65535) : n.natAbs < 2 ^ 1000 := Nat.lt_of_lt_of_le (show n.natAbs < 2 ^ 16 by omega) (Nat.pow_le_pow_right (by decide) (by decide))
/-- repr of data, as the walk asks it -/
theorem repr_d {K : PySem.W.Frag} {H : Hp} {Q : VK} {v : V} {d : PyData} (h : Dp K H v d) (ok : okD d = true) (hw : wt d ≤ 16000000) (hd : d.depth ≤ 60) (q : Q (.str d.shown) H) : rReprD K [v] H Q :=
  .inl ⟨v, d, rfl, h, (okD_show d ok).1, hd, Nat.le_trans (okD_show d ok).2 (Nat.le_trans hw (by decide)), q⟩
theorem repr_e {K : PySem.W.Frag} {H : Hp} {Q : VK} {a : Addr} (h : H a = some (.dK [])) (q : Q (.str (PyData.shown (.dict []))) H) : rReprD K [.ref a] H Q := .inr ⟨a, rfl, h, q⟩
theorem repr_ints {K : PySem.W.Frag} {H : Hp} {Q : VK} {a : Addr} {ns : List Int} (h : IL H a ns) (hs : ∀ n ∈ ns, n.natAbs < 2 ^ 1000) (hl : ns.length ≤ 5000) (q : Q (.str (PyData.shown (.list (ns.map .int)))) H) : rReprD K [.ref a] H Q := by
  refine repr_d (dp_ints h) ?_ ?_ ?_ q
  · simp only [okD]
    exact okAll_ints ns fun n hn => log_small (hs n hn) (by decide) (by decide)
  · simp only [wt, wtAll_ints]
    omega
  · simp only [PyData.depth, depth_ints]
    decide
end Wc

/-! Texts as lists of lengths: ends, totals; the pot of draws. -/
namespace Wc
open PySem PySem.Spec PyProof.Rows L2
/-! ### ends of words -/
/-- the ends of words that follow one another, the one before them ending at p -/
def endsFrom (p : Int) : List Int → List Int
  | [] => []
  | n :: ns => (p + (1 + n)) :: endsFrom (p + (1 + n)) ns
def endsOf (ns : List Int) : List Int := endsFrom (-1) ns
def total (ns : List Int) : Int := ns.sum + ns.length - 1
theorem endsFrom_len (p : Int) (ns : List Int) : (endsFrom p ns).length = ns.length := by
  induction ns generalizing p with
  | nil => rfl
  | cons n ns ih => simp only [endsFrom, List.length_cons, ih]
theorem endsOf_len (ns : List Int) : (endsOf ns).length = ns.length := endsFrom_len _ _
/-- the end of the i-th word, or what is ahead of the first -/
def lastFrom (p : Int) (ns : List Int) (i : Nat) : Int := p + (ns.take i).sum + ((ns.take i).length : Int)
def lastEnd (ns : List Int) (i : Nat) : Int := lastFrom (-1) ns i
theorem take_succ_get {α : Type} {ns : List α} {i : Nat} {z : α} (h : ns[i]? = some z) : ns.take (i + 1) = ns.take i ++ [z] := by
  rw [List.take_add_one, h]
  rfl
theorem lastFrom_succ {p : Int} {ns : List Int} {i : Nat} {z : Int} (h : ns[i]? = some z) : lastFrom p ns (i + 1) = lastFrom p ns i + (1 + z) := by
  unfold lastFrom
  rw [take_succ_get h, List.sum_append, List.length_append]
  simp
  omega
theorem endsFrom_get (p : Int) (ns : List Int) (i : Nat) (h : i < ns.length) : (endsFrom p ns)[i]? = some (lastFrom p ns (i + 1)) := by
  induction ns generalizing p i with
  | nil => simp at h
  | cons n ns ih =>
    cases i with
    | zero =>
      show some (p + (1 + n)) = some (lastFrom p (n :: ns) 1)
      unfold lastFrom
      simp
      omega
    | succ i =>
      show (endsFrom (p + (1 + n)) ns)[i]? = _
      rw [ih (p + (1 + n)) i (by simpa using h)]
      unfold lastFrom
      simp
      omega
theorem ends_get {ns : List Int} {i : Nat} {z : Int} (h : ns[i]? = some z) : (endsOf ns)[i]? = some (lastEnd ns (i + 1)) := endsFrom_get _ _ _ (List.getElem?_eq_some_iff.mp h).1
theorem lastEnd_succ {ns : List Int} {i : Nat} {z : Int} (h : ns[i]? = some z) : lastEnd ns (i + 1) = lastEnd ns i + (1 + z) := lastFrom_succ h
theorem ends_take {ns : List Int} {i : Nat} {z : Int} (h : ns[i]? = some z) : (endsOf ns).take i ++ [lastEnd ns (i + 1)] = (endsOf ns).take (i + 1) := by
  rw [take_succ_get (ends_get h)]

/-! ### values that are texts -/
def isLen : PyData → Bool
  | .int i => decide (1 ≤ i)
  | _ => false
def lenOf : PyData → Int
  | .int i => i
  | _ => 0
/-- a list of one or more lengths with at most 600 characters -/
def areLengths : Option PyData → Bool
  | some (.list ds) => !ds.isEmpty && ds.all isLen && decide (total (ds.map lenOf) ≤ 600)
  | _ => false
/-- a text -/
def Txt' (ns : List Int) : Prop := ns ≠ [] ∧ (∀ n ∈ ns, 1 ≤ n) ∧ total ns ≤ 600
theorem lens_ints (ns : List Int) : (ns.map PyData.int).map lenOf = ns := by
  rw [List.map_map]
  exact List.map_id'' (fun _ => rfl) ns
theorem areLengths_ints (ns : List Int) : areLengths (some (.list (ns.map .int))) = true ↔ Txt' ns := by
  unfold areLengths Txt'
  dsimp only
  rw [lens_ints]
  simp only [Bool.and_eq_true, Bool.not_eq_true', decide_eq_true_eq, List.all_map, List.all_eq_true, List.isEmpty_eq_false_iff, ne_eq, List.map_eq_nil_iff]
  constructor
  · rintro ⟨⟨a, b⟩, c⟩
    exact ⟨a, fun n hn => by have := b n hn; simpa [isLen] using this, c⟩
  · rintro ⟨a, b, c⟩
    exact ⟨⟨a, fun n hn => by have := b n hn; simpa [isLen] using this⟩, c⟩
theorem total_nonneg_len : ∀ ns : List Int, (∀ n ∈ ns, 1 ≤ n) → (ns.length : Int) ≤ ns.sum
  | [], _ => by simp
  | n :: ns, h => by
    have h1 := h n (List.mem_cons_self ..)
    have h2 := total_nonneg_len ns fun m hm => h m (List.mem_cons_of_mem _ hm)
    simp only [List.length_cons, List.sum_cons]
    omega
theorem mem_le_sum : ∀ ns : List Int, (∀ n ∈ ns, 1 ≤ n) → ∀ n ∈ ns, n ≤ ns.sum
  | [], _, n, hn => by cases hn
  | m :: ns, h, n, hn => by
    have h1 := h m (List.mem_cons_self ..)
    have h2 := total_nonneg_len ns fun m hm => h m (List.mem_cons_of_mem _ hm)
    simp only [List.sum_cons]
    rcases List.mem_cons.mp hn with rfl | hn
    · omega
    · have := mem_le_sum ns (fun m hm => h m (List.mem_cons_of_mem _ hm)) n hn
      omega
theorem Txt'.len {ns : List Int} (h : Txt' ns) : ns.length ≤ 300 := by
  have := total_nonneg_len ns h.2.1
  have := h.2.2
  unfold total at this
  omega
theorem Txt'.le {ns : List Int} (h : Txt' ns) : ∀ n ∈ ns, n ≤ 600 := by
  intro n hn
  have h1 := mem_le_sum ns h.2.1 n hn
  have h2 := h.2.2
  have h3 : 0 < ns.length := List.length_pos_iff.mpr h.1
  unfold total at h2
  omega
theorem dpAll_lens {K : PySem.W.Frag} {H : Hp} : ∀ {ds : List PyData} {xs : List V}, DpAll K H xs ds → ds.all isLen = true → xs = iV (ds.map lenOf)
  | _, _, .nil, _ => rfl
  | d :: ds, _, .cons h1 h2, c => by
    rw [List.all_cons, Bool.and_eq_true] at c
    have ih := dpAll_lens h2 c.2
    cases h1 with
    | int i => rw [ih]; rfl
    | non => cases c.1
    | bl _ => cases c.1
    | str _ => cases c.1
    | lst _ _ => cases c.1
    | tup _ _ => cases c.1
theorem av_ints {K : PySem.W.Frag} {H : Hp} {a : Addr} {ns : List Int} (h : SqL K H a (iV ns)) : Av K H (.ref a) (some (.list (ns.map .int))) := .d (.lst h (dpAll_ints ns)) (shaped_ints ns)
theorem av_text {K : PySem.W.Frag} {H : Hp} {v : V} {o : Option PyData} (h : Av K H v o) (c : areLengths o = true) : ∃ a ns, v = .ref a ∧ SqL K H a (iV ns) ∧ o = some (.list (ns.map .int)) ∧ Txt' ns := by
  cases h with
  | e _ => cases c
  | d h hs =>
    cases h with
    | non => cases c
    | bl _ => cases c
    | int _ => cases c
    | str _ => cases c
    | tup _ _ => cases c
    | @lst a xs ds hS ha =>
      have c' := c
      unfold areLengths at c
      rw [Bool.and_eq_true, Bool.and_eq_true] at c
      have e := dpAll_lens ha c.1.2
      have ed : (ds.map lenOf).map PyData.int = ds := by
        rw [List.map_map]
        have hall : ∀ d ∈ ds, isLen d = true := List.all_eq_true.mp c.1.2
        conv => rhs; rw [← List.map_id ds]
        refine List.map_congr_left fun d hd => ?_
        have := hall d hd
        cases d <;> first | rfl | cases this
      refine ⟨a, ds.map lenOf, rfl, e ▸ hS, by rw [ed], ?_⟩
      rw [← ed] at c'
      exact (areLengths_ints _).mp c'
theorem fresh_of {H H' : Hp} {p : Addr} (s : Same H H') (h : H' p = none) : H p = none := s.free h

/-! ### the pot of draws -/
/-- the pot stands at a: less than so many mixed draws so far -/
def Pot (H : Hp) (a : Addr) (n : Nat) : Prop := ∃ p0 p1 p2 : Int, H a = some (.lst [.int p0, .int p1, .int p2]) ∧ p1.natAbs < 2 ^ 200 ∧ 0 ≤ p2 ∧ p2 ≤ n
theorem Pot.some {H : Hp} {a : Addr} {n : Nat} (h : Pot H a n) : ∃ o, H a = some o := let ⟨_, _, _, h, _⟩ := h; ⟨_, h⟩
theorem Pot.ne {H : Hp} {a p : Addr} {n : Nat} (h : Pot H a n) (hp : H p = none) : p ≠ a := by
  obtain ⟨o, e⟩ := h.some
  exact (ne_of_none e hp).symm
theorem Pot.same {H H' : Hp} {a : Addr} {n : Nat} (s : Same H H') (h : Pot H a n) : Pot H' a n := let ⟨p0, p1, p2, h, r⟩ := h; ⟨p0, p1, p2, s _ _ h, r⟩
theorem Pot.mono {H : Hp} {a : Addr} {n m : Nat} (h : Pot H a n) (l : n ≤ m) : Pot H a m := let ⟨p0, p1, p2, h, h1, h2, h3⟩ := h; ⟨p0, p1, p2, h, h1, h2, by omega⟩
/-! ### more of texts -/
theorem repr_same_ne {z : Str} : (!decide (V.str z = V.str z)) = false := by simp
theorem txt_of {ws : List Int} {t : Int} (h0 : ws ≠ []) (h1 : ∀ w ∈ ws, 1 ≤ w) (h2 : total ws = t) (h3 : t ≤ 600) : Txt' ws := ⟨h0, h1, by omega⟩
theorem Txt'.small {ws : List Int} (h : Txt' ws) : ∀ m ∈ ws, m.natAbs < 2 ^ 1000 := by
  intro m hm
  have h1 := h.2.1 m hm
  have h2 := h.le m hm
  exact sm_of (by omega)
theorem Txt'.yes {ws : List Int} (h : Txt' ws) : areLengths (some (.list (ws.map .int))) = true := (areLengths_ints ws).mpr h
theorem lenLine {ws : List Int} (h : ws.length ≤ 5000) : ∀ ds, some (PyData.list (ws.map .int)) = some (.list ds) → ds.length ≤ sizeLine := by
  intro ds e
  injection e with e
  injection e with e
  rw [← e, List.length_map]
  exact Nat.le_trans h (by decide)
theorem ends_rng : ∀ (ns : List Int) (p : Int), (∀ n ∈ ns, 1 ≤ n) → ∀ e ∈ endsFrom p ns, p < e ∧ e ≤ p + ns.sum + ns.length
  | [], _, _, e, he => by cases he
  | n :: ns, p, h, e, he => by
    have h1 := h n (List.mem_cons_self ..)
    have hn : ∀ m ∈ ns, 1 ≤ m := fun m hm => h m (List.mem_cons_of_mem _ hm)
    have h2 := total_nonneg_len ns hn
    simp only [endsFrom, List.mem_cons] at he
    simp only [List.sum_cons, List.length_cons]
    rcases he with rfl | he
    · omega
    · have := ends_rng ns _ hn e he
      omega
theorem Txt'.ends {ns : List Int} (h : Txt' ns) : ∀ e ∈ (endsOf ns).dropLast, e.natAbs < 2 ^ 1000 := by
  intro e he
  have h1 := ends_rng ns (-1) h.2.1 e (List.dropLast_subset _ he)
  have h2 := h.2.2
  unfold total at h2
  exact sm_of (by omega)
theorem eqvL (ns ms : List Int) : PyData.eqv (.list (ns.map .int)) (.list (ms.map .int)) = decide (ns = ms) := by simp only [PyData.eqv, eqv_ints]
def shownO : Option PyData → Str
  | some d => d.shown
  | none => PyData.shown (.dict [])
theorem rep_ints (z : Int) (k : Int) : (List.replicate k.toNat [V.int z]).flatten = iV (List.replicate k.toNat z) := by
  induction k.toNat with
  | zero => rfl
  | succ n ih => rw [List.replicate_succ, List.replicate_succ, List.flatten_cons, ih]; rfl
end Wc

/-! zip and enumerate in loops and comprehensions; how texts are wrapped. -/
namespace Wc
open PySem PySem.Spec PyProof.Rows L2

/-! ### zip, enumerate -/
/-- [e for x, y in zip(xs, ys)], lists of one length -/
theorem lc_mapZ {K : PySem.W.Frag} {a b D : Addr} {xs ys : List V} {j k : Nat} {te : TE} {vs : List Nat} {σ : L2.St} {H1 : Hp} {Qd : Hp → Prop} (zs : List V) (hl : ys.length = xs.length) (hz : zs.length = xs.length) (h5 : xs.length ≤ sizeLine) (hA : SqL K H1 a xs) (hB : SqL K H1 b ys) (nD : H1 D = none)
    (hs : ∀ (i : Nat) (x y z : V) (H' : Hp), xs[i]? = some x → ys[i]? = some y → zs[i]? = some z → Same H1 H' → Evs te (((wipe σ vs).set j (some x)).set k (some y)) H' z) (hd : ∀ H', Same H1 H' → H' D = some (.lst zs) → Qd H')
    (hw : ∀ x y : V, wipe (((wipe σ vs).set j (some x)).set k (some y)) vs = wipe σ vs := by intro x y; rfl) :
    ∃ W : Nat → Nat → Hp → Prop, (∃ m, W 0 m (upd H1 D (.lst []))) ∧ ∀ i m H, W i m H →
      ((Itz K a b).stop i H ∧ Qd H) ∨ ((Itz K a b).go i H ∧ ∃ Nx : Hp → Prop, (∀ H', Nx H' → ∃ m', m' < m ∧ W (i + 1) m' H') ∧ ∀ x H', (Itz K a b).yld i H x H' → gTup K 2 (gCons (gName j) (gCons (gName k) gNil)) x (wipe σ vs) H' fun σ2 H2 => wipe σ2 vs = wipe σ vs ∧ tYes σ2 H2 fun b H3 =>
        if b = true then te σ2 H3 fun y H4 => ∃ acc, H4 D = some (.lst acc) ∧ acc.length < sizeLine ∧ Nx (upd H4 D (.lst (acc ++ [y]))) else Nx H3) := by
  refine lc_it (n := xs.length) (walk_zip (xs := xs) (ys := ys) (by rw [hl, Nat.min_self])) (fun i H => Same H1 H ∧ H D = some (.lst (zs.take i))) ⟨same_new nD, ?_⟩ (fun i H _ hp => ⟨hp.1.seq hA, hp.1.seq hB⟩) ?_ ?_
  · rw [upd_same, List.take_zero]
  · rintro i v H H' hi ⟨sm, eD⟩ ⟨T, x, y, rfl, nT, rfl, hx, hy⟩
    have hzz : zs[i]? = some (zs[i]'(by omega)) := List.getElem?_eq_getElem (by omega)
    have sT : Same H (upd H T (.tup [x, y])) := same_new nT
    refine ⟨T, [x, y], rfl, .inl (.inl upd_same), rfl, x, [y], rfl, y, [], rfl, rfl, hw x y, ?_⟩
    unfold tYes
    dsimp only
    rw [if_pos rfl]
    refine hs i x y _ _ hx hy hzz (sm.trans sT) _ fun H4 s4 => ⟨zs.take i, s4 _ _ (sT _ _ eD), ?_, ?_, ?_⟩
    · rw [List.length_take]
      omega
    · exact same_mut ((sm.trans sT).trans s4) nD
    · rw [upd_same, List.take_add_one, hzz]
      rfl
  · rintro H ⟨sm, eD⟩
    refine hd H sm ?_
    rw [eD, ← hz, List.take_length]
/-- [e for i, x in enumerate(xs)] -/
theorem lc_mapE {K : PySem.W.Frag} {a D : Addr} {xs : List V} {j k : Nat} {te : TE} {vs : List Nat} {σ : L2.St} {H1 : Hp} {Qd : Hp → Prop} (zs : List V) (hz : zs.length = xs.length) (h5 : xs.length ≤ sizeLine) (hA : SqL K H1 a xs) (nD : H1 D = none)
    (hs : ∀ (i : Nat) (x z : V) (H' : Hp), xs[i]? = some x → zs[i]? = some z → Same H1 H' → Evs te (((wipe σ vs).set j (some (.int (i : Nat)))).set k (some x)) H' z) (hd : ∀ H', Same H1 H' → H' D = some (.lst zs) → Qd H')
    (hw : ∀ x y : V, wipe (((wipe σ vs).set j (some x)).set k (some y)) vs = wipe σ vs := by intro x y; rfl) :
    ∃ W : Nat → Nat → Hp → Prop, (∃ m, W 0 m (upd H1 D (.lst []))) ∧ ∀ i m H, W i m H →
      ((Ite K a).stop i H ∧ Qd H) ∨ ((Ite K a).go i H ∧ ∃ Nx : Hp → Prop, (∀ H', Nx H' → ∃ m', m' < m ∧ W (i + 1) m' H') ∧ ∀ x H', (Ite K a).yld i H x H' → gTup K 2 (gCons (gName j) (gCons (gName k) gNil)) x (wipe σ vs) H' fun σ2 H2 => wipe σ2 vs = wipe σ vs ∧ tYes σ2 H2 fun b H3 =>
        if b = true then te σ2 H3 fun y H4 => ∃ acc, H4 D = some (.lst acc) ∧ acc.length < sizeLine ∧ Nx (upd H4 D (.lst (acc ++ [y]))) else Nx H3) := by
  refine lc_it (n := xs.length) (walk_enum (xs := xs)) (fun i H => Same H1 H ∧ H D = some (.lst (zs.take i))) ⟨same_new nD, ?_⟩ (fun i H _ hp => hp.1.seq hA) ?_ ?_
  · rw [upd_same, List.take_zero]
  · rintro i v H H' hi ⟨sm, eD⟩ ⟨T, x, y, rfl, nT, rfl, hx, hy⟩
    have ex : V.int (i : Nat) = x := Option.some.inj hx
    subst ex
    have hzz : zs[i]? = some (zs[i]'(by omega)) := List.getElem?_eq_getElem (by omega)
    have sT : Same H (upd H T (.tup [V.int (i : Nat), y])) := same_new nT
    refine ⟨T, [V.int (i : Nat), y], rfl, .inl (.inl upd_same), rfl, _, [y], rfl, y, [], rfl, rfl, hw _ y, ?_⟩
    unfold tYes
    dsimp only
    rw [if_pos rfl]
    refine hs i y _ _ hy hzz (sm.trans sT) _ fun H4 s4 => ⟨zs.take i, s4 _ _ (sT _ _ eD), ?_, ?_, ?_⟩
    · rw [List.length_take]
      omega
    · exact same_mut ((sm.trans sT).trans s4) nD
    · rw [upd_same, List.take_add_one, hzz]
      rfl
  · rintro H ⟨sm, eD⟩
    refine hd H sm ?_
    rw [eD, ← hz, List.take_length]

/-! ### wrapping -/
/-- the ends of the lines, from the start of a line on -/
def wrapGo (w start : Int) : List Int → List Int
  | [] => []
  | [s] => [s]
  | s :: t :: r => if t > start + w then s :: wrapGo w (s + 1) (t :: r) else wrapGo w start (t :: r)
def wrappedEnds (stops : List Int) (w : Int) : List Int := wrapGo w 0 stops
/-- the lengths of lines with these ends, the first one from start on -/
def lenFrom (start : Int) : List Int → List Int
  | [] => []
  | e :: r => (e - start) :: lenFrom (e + 1) r
def lengthsOf (ends : List Int) : List Int := lenFrom 0 ends
def startsOf (ends : List Int) : List Int := 0 :: ends.dropLast.map (· + 1)
def wrapOf (ns : List Int) (w : Int) : List Int := lengthsOf (wrappedEnds (endsOf ns) w)
theorem lenFrom_len (p : Int) (es : List Int) : (lenFrom p es).length = es.length := by
  induction es generalizing p with
  | nil => rfl
  | cons e r ih => simp only [lenFrom, List.length_cons, ih]
theorem wrapGo_len (w p : Int) (es : List Int) : (wrapGo w p es).length ≤ es.length := by
  fun_induction wrapGo w p es with
  | case1 => simp
  | case2 => simp
  | case3 p s t r h ih => simp only [List.length_cons] at ih ⊢; omega
  | case4 p s t r h ih => simp only [List.length_cons] at ih ⊢; omega
theorem wrapGo_ne (w p s : Int) (r : List Int) : wrapGo w p (s :: r) ≠ [] := by
  induction r generalizing p s with
  | nil => simp [wrapGo]
  | cons t r ih =>
    unfold wrapGo
    split
    · simp
    · exact ih p t
/-- word by word: the lengths of the lines, c the length of the present one -/
def lineGo (w c : Int) : List Int → List Int
  | [] => [c]
  | n :: r => if c + 1 + n ≤ w then lineGo w (c + 1 + n) r else c :: lineGo w n r
theorem wrap_line (w : Int) (ns : List Int) (start c : Int) : lenFrom start (wrapGo w start ((start + c) :: endsFrom (start + c) ns)) = lineGo w c ns := by
  induction ns generalizing start c with
  | nil =>
    simp only [endsFrom, wrapGo, lenFrom, lineGo]
    congr 1
    omega
  | cons n ns ih =>
    simp only [endsFrom]
    unfold wrapGo lineGo
    by_cases h : c + 1 + n ≤ w
    · rw [if_neg (by omega), if_pos h]
      have := ih start (c + 1 + n)
      have e : start + c + (1 + n) = start + (c + 1 + n) := by omega
      rw [e]
      exact this
    · rw [if_pos (by omega), if_neg h]
      show (start + c - start) :: lenFrom (start + c + 1) _ = _
      have e1 : start + c - start = c := by omega
      have e2 : start + c + (1 + n) = start + c + 1 + n := by omega
      rw [e1, e2, ih (start + c + 1) n]
/-- one more word -/
def lineStep (w : Int) (acc : List Int) (n : Int) : List Int := match acc.getLast? with
  | some l => if l + 1 + n ≤ w then acc.dropLast ++ [l + 1 + n] else acc ++ [n]
  | none => [n]
theorem lineStep_snoc (w : Int) (acc : List Int) (c n : Int) : lineStep w (acc ++ [c]) n = if c + 1 + n ≤ w then acc ++ [c + 1 + n] else acc ++ [c] ++ [n] := by
  simp [lineStep]
theorem lines_fold (w : Int) (ns : List Int) (acc : List Int) (c : Int) : ns.foldl (lineStep w) (acc ++ [c]) = acc ++ lineGo w c ns := by
  induction ns generalizing acc c with
  | nil => rfl
  | cons n ns ih =>
    rw [List.foldl_cons, lineStep_snoc, lineGo]
    split
    · exact ih acc _
    · rw [ih (acc ++ [c]) n, List.append_assoc]
      rfl
/-- the wrap of the first i words, word by word -/
def lawWrap (ns : List Int) (w : Int) : List Int := ns.foldl (lineStep w) []
theorem lawWrap_cons (n : Int) (ns : List Int) (w : Int) : lawWrap (n :: ns) w = lineGo w n ns := by
  have := lines_fold w ns [] n
  simpa [lawWrap, lineStep] using this
theorem wrap_eq (ns : List Int) (w : Int) : wrapOf ns w = lawWrap ns w := by
  cases ns with
  | nil => rfl
  | cons n ns =>
    rw [lawWrap_cons]
    have := wrap_line w ns 0 n
    unfold wrapOf wrappedEnds lengthsOf endsOf
    simp only [endsFrom]
    have e : (-1 : Int) + (1 + n) = 0 + n := by omega
    rw [e]
    exact this
theorem lawWrap_snoc (ns : List Int) (n : Int) (w : Int) : lawWrap (ns ++ [n]) w = lineStep w (lawWrap ns w) n := by
  unfold lawWrap
  rw [List.foldl_append]
  rfl
theorem lineGo_total (w c : Int) (ns : List Int) : total (lineGo w c ns) = total (c :: ns) := by
  induction ns generalizing c with
  | nil => rfl
  | cons n ns ih =>
    unfold lineGo
    split
    · rw [ih]
      unfold total
      simp only [List.sum_cons, List.length_cons]
      omega
    · have := ih n
      unfold total at this ⊢
      simp only [List.sum_cons, List.length_cons] at this ⊢
      omega
theorem lineGo_pos (w c : Int) (ns : List Int) (hc : 1 ≤ c) (h : ∀ n ∈ ns, 1 ≤ n) : ∀ l ∈ lineGo w c ns, 1 ≤ l := by
  induction ns generalizing c with
  | nil =>
    intro l hl
    rw [List.mem_singleton.mp hl]
    exact hc
  | cons n ns ih =>
    have hn := h n (List.mem_cons_self ..)
    have hr := fun m hm => h m (List.mem_cons_of_mem n hm)
    unfold lineGo
    split
    · exact ih _ (by omega) hr
    · intro l hl
      rcases List.mem_cons.mp hl with rfl | hl
      · exact hc
      · exact ih n hn hr l hl
theorem lineGo_ne (w c : Int) (ns : List Int) : lineGo w c ns ≠ [] := by
  induction ns generalizing c with
  | nil => simp [lineGo]
  | cons n ns ih =>
    unfold lineGo
    split
    · exact ih _
    · simp
/-- the wrap of a text is a text of as many characters -/
theorem Txt'.wrap {ns : List Int} (h : Txt' ns) (w : Int) : Txt' (lawWrap ns w) ∧ total (lawWrap ns w) = total ns := by
  obtain ⟨h0, h1, h2⟩ := h
  cases ns with
  | nil => exact (h0 rfl).elim
  | cons n ns =>
    rw [lawWrap_cons]
    have e := lineGo_total w n ns
    exact ⟨⟨lineGo_ne _ _ _, lineGo_pos _ _ _ (h1 n (List.mem_cons_self ..)) fun m hm => h1 m (List.mem_cons_of_mem _ hm), by omega⟩, e⟩
theorem lenFrom_ends (p : Int) (ns : List Int) : lenFrom (p + 1) (endsFrom p ns) = ns := by
  induction ns generalizing p with
  | nil => rfl
  | cons n ns ih =>
    simp only [endsFrom, lenFrom]
    rw [ih]
    congr 1
    omega
/-- the lengths of the ends are the lengths -/
theorem lengths_ends (ns : List Int) : lengthsOf (endsOf ns) = ns := by
  have := lenFrom_ends (-1) ns
  rwa [show (-1 : Int) + 1 = 0 by decide] at this
theorem ends_lenFrom (p : Int) (es : List Int) : endsFrom p (lenFrom (p + 1) es) = es := by
  induction es generalizing p with
  | nil => rfl
  | cons e r ih =>
    simp only [lenFrom, endsFrom]
    have e1 : p + (1 + (e - (p + 1))) = e := by omega
    rw [e1, ih]
theorem ends_lengths (es : List Int) : endsOf (lengthsOf es) = es := by
  have := ends_lenFrom (-1) es
  rwa [show (-1 : Int) + 1 = 0 by decide] at this
theorem endsOf_wrap (ns : List Int) (w : Int) : endsOf (lawWrap ns w) = wrappedEnds (endsOf ns) w := by
  rw [← wrap_eq]
  exact ends_lengths _
theorem IL.new {H : Hp} {a t : Addr} {ns : List Int} {o : HO} (h : IL H a ns) (n : H t = Option.none) : IL (upd H t o) a ns := at_new h n
theorem IL.same {H H' : Hp} {a : Addr} {ns : List Int} (h : IL H a ns) (s : Same H H') : IL H' a ns := s _ _ h
/-- data that repr shows and == compares: a bound of its length, one of its depth -/
structure Nc (w k : Nat) (d : PyData) : Prop where
  ok : okD d = true
  wt : wt d ≤ w
  dp : d.depth ≤ k
  cl : d.canLay0 = true
structure Ncs (w k : Nat) (ds : List PyData) : Prop where
  ok : okAll ds = true
  wt : wtAll ds ≤ w
  dp : PyData.depthAll ds ≤ k
  cl : PyData.canLayAll0 ds = true
theorem Nc.mono {w k w' k' : Nat} {d : PyData} (h : Nc w k d) (h1 : w ≤ w') (h2 : k ≤ k') : Nc w' k' d := ⟨h.ok, Nat.le_trans h.wt h1, Nat.le_trans h.dp h2, h.cl⟩
theorem Ncs.mono {w k w' k' : Nat} {d : List PyData} (h : Ncs w k d) (h1 : w ≤ w') (h2 : k ≤ k') : Ncs w' k' d := ⟨h.ok, Nat.le_trans h.wt h1, Nat.le_trans h.dp h2, h.cl⟩
theorem Nc.int {z : Int} (h : z.natAbs < 2 ^ 1000) : Nc 2000 0 (.int z) := ⟨by simp only [okD]; exact decide_eq_true (log_small h (by decide) (by decide)), Nat.le_refl _, by simp [PyData.depth], rfl⟩
theorem Nc.bl (b : Bool) : Nc 5 0 (.bool b) := ⟨rfl, Nat.le_refl _, by simp [PyData.depth], rfl⟩
theorem Nc.non : Nc 4 0 .none := ⟨rfl, Nat.le_refl _, by simp [PyData.depth], rfl⟩
theorem Ncs.nil {k : Nat} : Ncs 0 k [] := ⟨rfl, Nat.le_refl _, by simp [PyData.depthAll], by simp [PyData.canLayAll0]⟩
theorem Ncs.cons {w w' k k' : Nat} {d : PyData} {ds : List PyData} (h : Nc w k d) (hs : Ncs w' k' ds) : Ncs (w + 2 + w') (max k k') (d :: ds) := by
  refine ⟨by simp only [okAll, h.ok, hs.ok, Bool.and_self], ?_, ?_, by simp only [PyData.canLayAll0, h.cl, hs.cl, Bool.and_self]⟩
  · have := h.wt
    have := hs.wt
    simp only [wtAll]
    omega
  · have := h.dp
    have := hs.dp
    simp only [PyData.depthAll]
    omega
theorem Nc.list {w k : Nat} {ds : List PyData} (h : Ncs w k ds) : Nc (w + 3) (k + 1) (.list ds) := by
  refine ⟨by simp only [okD, h.ok], ?_, ?_, by simp only [PyData.canLay0, h.cl]⟩
  · have := h.wt
    simp only [Wc.wt]
    omega
  · have := h.dp
    simp only [PyData.depth]
    omega
theorem Nc.tuple {w k : Nat} {ds : List PyData} (h : Ncs w k ds) : Nc (w + 3) (k + 1) (.tuple ds) := by
  refine ⟨by simp only [okD, h.ok], ?_, ?_, by simp only [PyData.canLay0, h.cl]⟩
  · have := h.wt
    simp only [Wc.wt]
    omega
  · have := h.dp
    simp only [PyData.depth]
    omega
/-- as many things, each alike small -/
theorem Ncs.all {w k n : Nat} {ds : List PyData} (hn : ds.length ≤ n) (h : ∀ d ∈ ds, Nc w k d) : Ncs ((w + 2) * n) k ds := by
  induction ds generalizing n with
  | nil => exact Ncs.nil.mono (Nat.zero_le _) (Nat.le_refl _)
  | cons d ds ih =>
    cases n with
    | zero => simp at hn
    | succ n =>
      have := ih (n := n) (by simpa using hn) fun e he => h e (List.mem_cons_of_mem d he)
      refine (Ncs.cons (h d (List.mem_cons_self ..)) this).mono ?_ (by simp)
      rw [Nat.mul_succ]
      omega
theorem Nc.ints {n : Nat} {ns : List Int} (hn : ns.length ≤ n) (h : ∀ m ∈ ns, m.natAbs < 2 ^ 1000) : Nc (2002 * n + 3) 1 (.list (ns.map .int)) := by
  refine Nc.list (Ncs.all (w := 2000) (by rw [List.length_map]; exact hn) fun d hd => ?_)
  obtain ⟨z, hz, rfl⟩ := List.mem_map.mp hd
  exact Nc.int (h z hz)
theorem Nc.shaped {w k : Nat} {d : PyData} (h : Nc w k d) (hk : k ≤ 64) : SeqAt.shaped d = true := by
  unfold SeqAt.shaped
  rw [h.cl, decide_eq_true (Nat.le_trans h.dp hk)]
  rfl
theorem Nc.refl {w k : Nat} {d : PyData} (h : Nc w k d) : PyData.eqv d d = true := SeqAt.eqv_refl d h.cl
theorem Nc.repr {w k : Nat} {K : PySem.W.Frag} {H : Hp} {Q : VK} {v : V} {d : PyData} (n : Nc w k d) (h : Dp K H v d) (hw : w ≤ 16000000) (hk : k ≤ 60) (q : Q (.str d.shown) H) : rReprD K [v] H Q := repr_d h n.ok (Nat.le_trans n.wt hw) (Nat.le_trans n.dp hk) q
/-- x == x, x != x -/
theorem Nc.eqD {w k : Nat} {K : PySem.W.Frag} {H : Hp} {Q : VK} {x y : V} {d : PyData} (n : Nc w k d) (h1 : Dp K H x d) (h2 : Dp K H y d) (hk : k ≤ 64) (q : Q (.bl true) H) : rEqD K x y H Q := ⟨d, d, h1, h2, n.shaped hk, n.shaped hk, by rw [n.refl]; exact q⟩
theorem Nc.neD {w k : Nat} {K : PySem.W.Frag} {H : Hp} {Q : VK} {x y : V} {d : PyData} (n : Nc w k d) (h1 : Dp K H x d) (h2 : Dp K H y d) (hk : k ≤ 64) (q : Q (.bl false) H) : rNeD K x y H Q := ⟨d, d, h1, h2, n.shaped hk, n.shaped hk, by rw [n.refl]; exact q⟩
theorem ints_small {ns : List Int} {B : Int} (hB : B ≤ 2 ^ 60) (h : ∀ m ∈ ns, -B ≤ m ∧ m ≤ B) : ∀ m ∈ ns, m.natAbs < 2 ^ 1000 := by
  intro m hm
  obtain ⟨h1, h2⟩ := h m hm
  refine Nat.lt_of_lt_of_le (m := 2 ^ 61) ?_ (Nat.pow_le_pow_right (by decide) (by decide))
  have e60 : (2 : Int) ^ 60 = 1152921504606846976 := by decide
  have e61 : (2 : Nat) ^ 61 = 2305843009213693952 := by decide
  rw [e61]
  rw [e60] at hB
  omega
theorem Pot.mut {H : Hp} {a p : Addr} {n : Nat} {u : HO} (h : Pot H a n) (ne : a ≠ p) : Pot (upd H p u) a n := let ⟨p0, p1, p2, h, r⟩ := h; ⟨p0, p1, p2, at_mut h ne, r⟩
theorem IL.mut {H : Hp} {a p : Addr} {ns : List Int} {u : HO} (h : IL H a ns) (ne : a ≠ p) : IL (upd H p u) a ns := at_mut h ne
theorem Pot.new {H : Hp} {a p : Addr} {n : Nat} {u : HO} (h : Pot H a n) (np : H p = Option.none) : Pot (upd H p u) a n := h.same (same_new np)
theorem neI {z : Int} : (!decide (V.int z = V.int z)) = false := by simp
theorem neV {z : V} : (!decide (z = z)) = false := by simp
end Wc

/-! comprehensions with any state; those that give data. -/
namespace Wc
open PySem PySem.Spec PyProof.Rows L2

/-- [e for x in xs], any state: P i acc H with acc in D -/
theorem lc_genL {K : PySem.W.Frag} {a D : Addr} {xs : List V} {j : Nat} {te : TE} {vs : List Nat} {σ : L2.St} {H1 : Hp} {Qd : Hp → Prop} (P : Nat → List V → Hp → Prop) (hz : xs.length ≤ sizeLine)
    (h0 : P 0 [] (upd H1 D (.lst []))) (hsrc : ∀ i acc H, P i acc H → H D = some (.lst acc) → SqL K H a xs)
    (hs : ∀ i x acc H, xs[i]? = some x → acc.length = i → P i acc H → H D = some (.lst acc) → ∀ Q : VK, (∀ y H', H' D = some (.lst acc) → P (i + 1) (acc ++ [y]) (upd H' D (.lst (acc ++ [y]))) → Q y H') → te ((wipe σ vs).set j (some x)) H Q)
    (hd : ∀ acc H', acc.length = xs.length → P xs.length acc H' → H' D = some (.lst acc) → Qd H')
    (hw : ∀ x : V, wipe ((wipe σ vs).set j (some x)) vs = wipe σ vs := by intro x; rfl) :
    ∃ W : Nat → Nat → Hp → Prop, (∃ m, W 0 m (upd H1 D (.lst []))) ∧ ∀ i m H, W i m H →
      ((Itl K a).stop i H ∧ Qd H) ∨ ((Itl K a).go i H ∧ ∃ Nx : Hp → Prop, (∀ H', Nx H' → ∃ m', m' < m ∧ W (i + 1) m' H') ∧ ∀ x H', (Itl K a).yld i H x H' → gName j x (wipe σ vs) H' fun σ2 H2 => wipe σ2 vs = wipe σ vs ∧ tYes σ2 H2 fun b H3 =>
        if b = true then te σ2 H3 fun y H4 => ∃ acc, H4 D = some (.lst acc) ∧ acc.length < sizeLine ∧ Nx (upd H4 D (.lst (acc ++ [y]))) else Nx H3) := by
  refine lc_list (xs := xs) (fun i H => ∃ acc, acc.length = i ∧ H D = some (.lst acc) ∧ P i acc H) ⟨[], rfl, upd_same, h0⟩ (fun i H _ ⟨acc, _, e, hp⟩ => hsrc i acc H hp e) ?_ ?_
  · rintro i x H hx ⟨acc, ha, eD, hp⟩
    have hi : i < xs.length := (List.getElem?_eq_some_iff.mp hx).1
    refine ⟨hw x, ?_⟩
    unfold tYes
    dsimp only
    rw [if_pos rfl]
    refine hs i x acc H hx ha hp eD _ fun y H4 e4 p4 => ⟨acc, e4, by omega, acc ++ [y], by rw [List.length_append, List.length_singleton, ha], upd_same, p4⟩
  · rintro H ⟨acc, ha, eD, hp⟩
    exact hd acc H ha hp eD
/-- [e for i in range(..)], any state -/
theorem lc_genR {D : Addr} {lo : Int} {n j : Nat} {te : TE} {vs : List Nat} {σ : L2.St} {H1 : Hp} {Qd : Hp → Prop} (P : Nat → List V → Hp → Prop) (hz : n ≤ sizeLine)
    (h0 : P 0 [] (upd H1 D (.lst [])))
    (hs : ∀ i acc H, i < n → acc.length = i → P i acc H → H D = some (.lst acc) → ∀ Q : VK, (∀ y H', H' D = some (.lst acc) → P (i + 1) (acc ++ [y]) (upd H' D (.lst (acc ++ [y]))) → Q y H') → te ((wipe σ vs).set j (some (.int (lo + i)))) H Q)
    (hd : ∀ acc H', acc.length = n → P n acc H' → H' D = some (.lst acc) → Qd H')
    (hw : ∀ x : V, wipe ((wipe σ vs).set j (some x)) vs = wipe σ vs := by intro x; rfl) :
    ∃ W : Nat → Nat → Hp → Prop, (∃ m, W 0 m (upd H1 D (.lst []))) ∧ ∀ i m H, W i m H →
      ((Itr lo n).stop i H ∧ Qd H) ∨ ((Itr lo n).go i H ∧ ∃ Nx : Hp → Prop, (∀ H', Nx H' → ∃ m', m' < m ∧ W (i + 1) m' H') ∧ ∀ x H', (Itr lo n).yld i H x H' → gName j x (wipe σ vs) H' fun σ2 H2 => wipe σ2 vs = wipe σ vs ∧ tYes σ2 H2 fun b H3 =>
        if b = true then te σ2 H3 fun y H4 => ∃ acc, H4 D = some (.lst acc) ∧ acc.length < sizeLine ∧ Nx (upd H4 D (.lst (acc ++ [y]))) else Nx H3) := by
  refine lc_range (lo := lo) (n := n) (fun i H => ∃ acc, acc.length = i ∧ H D = some (.lst acc) ∧ P i acc H) ⟨[], rfl, upd_same, h0⟩ ?_ ?_
  · rintro i H hi ⟨acc, ha, eD, hp⟩
    refine ⟨hw _, ?_⟩
    unfold tYes
    dsimp only
    rw [if_pos rfl]
    refine hs i acc H hi ha hp eD _ fun y H4 e4 p4 => ⟨acc, e4, by omega, acc ++ [y], by rw [List.length_append, List.length_singleton, ha], upd_same, p4⟩
  · rintro H ⟨acc, ha, eD, hp⟩
    exact hd acc H ha hp eD
theorem DpAll.snoc {K : PySem.W.Frag} {H : Hp} {v : V} {d : PyData} : ∀ {vs : List V} {ds : List PyData}, DpAll K H vs ds → Dp K H v d → DpAll K H (vs ++ [v]) (ds ++ [d])
  | _, _, .nil, h => .cons h .nil
  | _, _, .cons h1 h2, h => .cons h1 (DpAll.snoc h2 h)
/-- what holds of data whose heap only grows, but for the list in D -/
theorem sameB_new {H H' : Hp} {D : Addr} (n : H D = Option.none) (s : SameB D H H') : Same H H' := fun b o e => s b o (ne_of_none e n) e
/-- [e for x in xs], e giving new data -/
theorem lc_mapD {K : PySem.W.Frag} {a D : Addr} {xs : List V} {j : Nat} {te : TE} {vs : List Nat} {σ : L2.St} {H1 : Hp} {Qd : Hp → Prop} (ds : List PyData) (hl : ds.length = xs.length) (hz : xs.length ≤ sizeLine) (hS : SqL K H1 a xs) (nD : H1 D = none)
    (hs : ∀ (i : Nat) (x : V) (d : PyData) (H' : Hp), xs[i]? = some x → ds[i]? = some d → Same H1 H' → (∃ o, H' D = some o) → ∀ Q : VK, (∀ y H2, Same H' H2 → (∀ H3, (∀ b o, b ≠ D → H2 b = some o → H3 b = some o) → Dp K H3 y d) → Q y H2) → te ((wipe σ vs).set j (some x)) H' Q)
    (hd : ∀ H' acc, Same H1 H' → H' D = some (.lst acc) → DpAll K H' acc ds → Qd H')
    (hw : ∀ x : V, wipe ((wipe σ vs).set j (some x)) vs = wipe σ vs := by intro x; rfl) :
    ∃ W : Nat → Nat → Hp → Prop, (∃ m, W 0 m (upd H1 D (.lst []))) ∧ ∀ i m H, W i m H →
      ((Itl K a).stop i H ∧ Qd H) ∨ ((Itl K a).go i H ∧ ∃ Nx : Hp → Prop, (∀ H', Nx H' → ∃ m', m' < m ∧ W (i + 1) m' H') ∧ ∀ x H', (Itl K a).yld i H x H' → gName j x (wipe σ vs) H' fun σ2 H2 => wipe σ2 vs = wipe σ vs ∧ tYes σ2 H2 fun b H3 =>
        if b = true then te σ2 H3 fun y H4 => ∃ acc, H4 D = some (.lst acc) ∧ acc.length < sizeLine ∧ Nx (upd H4 D (.lst (acc ++ [y]))) else Nx H3) := by
  refine lc_genL (fun i acc H => Same H1 H ∧ ∀ H3, (∀ b o, b ≠ D → H b = some o → H3 b = some o) → DpAll K H3 acc (ds.take i)) hz ⟨same_new nD, fun _ _ => .nil⟩ (fun i acc H hp _ => hp.1.seq hS) ?_ ?_ hw
  · rintro i x acc H hx ha ⟨sm, hp⟩ eD Q k
    have hi : i < xs.length := (List.getElem?_eq_some_iff.mp hx).1
    have hdd : ds[i]? = some (ds[i]'(by omega)) := List.getElem?_eq_getElem (by omega)
    refine hs i x _ H hx hdd sm ⟨_, eD⟩ Q fun y H2 s2 hy => k y H2 (s2 _ _ eD) ⟨same_mut (sm.trans s2) nD, fun H3 s3 => ?_⟩
    have s23 : ∀ b o, b ≠ D → H2 b = some o → H3 b = some o := fun b o nb e => s3 b o nb (by rw [upd_ne nb]; exact e)
    rw [List.take_add_one, hdd]
    exact DpAll.snoc (hp H3 fun b o nb e => s23 b o nb (s2 b o e)) (hy H3 s23)
  · rintro acc H ha ⟨sm, hp⟩ eD
    refine hd H acc sm eD ?_
    have := hp H fun b o _ e => e
    rwa [← hl, List.take_length] at this
theorem if_go {tt : TT} {t1 t2 : TS} {D : Ends} {σ : L2.St} {H : Hp} (h : tt σ H fun b H1 => if b = true then t1 D σ H1 else t2 D σ H1) : tIfS tt t1 t2 D σ H := h
/-- a test that fails, with what holds of the heap behind it -/
abbrev No (tt : TT) (σ : L2.St) (H : Hp) (P : Hp → Prop) : Prop := ∀ Q : Bool → Hp → Prop, (∀ H', P H' → Q false H') → tt σ H Q
section
variable {ta tb : TT} {t1 : TS} {u : TS} {D : Ends} {σ : L2.St} {H : Hp} {Q : Bool → Hp → Prop}
theorem or_no (P : Hp → Prop) (h : No ta σ H P) (k : ∀ H', P H' → tb σ H' Q) : tOr ta tb σ H Q := h _ fun H' p => by
  rw [if_neg (by decide)]
  exact k H' p
theorem sq_no (P : Hp → Prop) (h : No ta σ H P) (k : ∀ H', P H' → u D σ H') : tSeq (tIfS ta t1 tNext) u D σ H := h _ fun H' p => by
  rw [if_neg (by decide)]
  exact k H' p
theorem if_no (P : Hp → Prop) (h : No ta σ H P) (k : ∀ H', P H' → D.nx σ H') : tIfS ta t1 tNext D σ H := h _ fun H' p => by
  rw [if_neg (by decide)]
  exact k H' p
end
/-- for x, y in zip(xs, ys), lists of one length -/
theorem for_zip {K : PySem.W.Frag} {a b : Addr} {xs ys : List V} {j k : Nat} {tb : TS} {D : Ends} {σ : L2.St} {H : Hp} (Pv : Nat → L2.St → Hp → Prop) (hl : ys.length = xs.length) (h0 : Pv 0 σ H) (hG : ∀ i σ H, Pv i σ H → SqL K H a xs ∧ SqL K H b ys)
    (hs : ∀ i x y σ H T, xs[i]? = some x → ys[i]? = some y → H T = Option.none → Pv i σ H → tb { D with nx := Pv (i + 1), ct := Pv (i + 1), bk := D.nx } ((σ.set j (some x)).set k (some y)) (upd H T (.tup [x, y]))) (hd : ∀ σ H, Pv xs.length σ H → D.nx σ H) :
    ∃ W : Nat → Nat → L2.St → Hp → Prop, (∃ m, W 0 m σ H) ∧ ∀ i m σ H, W i m σ H →
      ((Itz K a b).stop i H ∧ D.nx σ H) ∨ ((Itz K a b).go i H ∧ ∃ N : L2.St → Hp → Prop, (∀ σ' H', N σ' H' → ∃ m', m' < m ∧ W (i + 1) m' σ' H') ∧ ∀ x H', (Itz K a b).yld i H x H' → gTup K 2 (gCons (gName j) (gCons (gName k) gNil)) x σ H' fun σ2 H2 => tb { D with nx := N, ct := N, bk := D.nx } σ2 H2) := by
  refine for_it (n := xs.length) (walk_zip (xs := xs) (ys := ys) (by rw [hl, Nat.min_self])) Pv h0 (fun i σ H _ p => hG i σ H p) ?_ hd
  rintro i v σ H H2 hi p ⟨T, x, y, rfl, nT, rfl, hx, hy⟩
  exact ⟨T, _, rfl, .inl (.inl upd_same), rfl, _, _, rfl, _, _, rfl, rfl, hs i x y σ H T hx hy nT p⟩
/-- [x for x in xs if t], ints -/
theorem lc_filtI {K : PySem.W.Frag} {a D : Addr} {all : List Int} {j : Nat} {tt : TT} {te : TE} {vs : List Nat} {σ : L2.St} {H1 : Hp} {Qd : Hp → Prop} (c : Int → Bool) (hz : all.length ≤ sizeLine) (hS : SqL K H1 a (iV all)) (nD : H1 D = Option.none)
    (ht : ∀ (i : Nat) (z : Int) (H' : Hp), all[i]? = some z → Same H1 H' → Evt tt ((wipe σ vs).set j (some (.int z))) H' (c z)) (hs : ∀ (z : Int) (H' : Hp), Evs te ((wipe σ vs).set j (some (.int z))) H' (.int z))
    (hd : ∀ H', Same H1 H' → IL H' D (all.filter c) → Qd H') (hw : ∀ x : V, wipe ((wipe σ vs).set j (some x)) vs = wipe σ vs := by intro x; rfl) :
    ∃ W : Nat → Nat → Hp → Prop, (∃ m, W 0 m (upd H1 D (.lst []))) ∧ ∀ i m H, W i m H →
      ((Itl K a).stop i H ∧ Qd H) ∨ ((Itl K a).go i H ∧ ∃ Nx : Hp → Prop, (∀ H', Nx H' → ∃ m', m' < m ∧ W (i + 1) m' H') ∧ ∀ x H', (Itl K a).yld i H x H' → gName j x (wipe σ vs) H' fun σ2 H2 => wipe σ2 vs = wipe σ vs ∧ tt σ2 H2 fun b H3 =>
        if b = true then te σ2 H3 fun y H4 => ∃ acc, H4 D = some (.lst acc) ∧ acc.length < sizeLine ∧ Nx (upd H4 D (.lst (acc ++ [y]))) else Nx H3) := by
  refine lc_filtL (xs := iV all) (fun v => match v with | .int z => if c z = true then some (.int z) else Option.none | _ => Option.none) (by rw [List.length_map]; exact hz) hS nD ?_ ?_ ?_ hw
  · intro i x H' hx s
    obtain ⟨z, hz1, rfl⟩ := ints_get hx
    have e : (if c z = true then some (V.int z) else Option.none).isSome = c z := by cases c z <;> rfl
    dsimp only
    rw [e]
    exact ht i z H' hz1 s
  · intro i x y H' hx hy s
    obtain ⟨z, hz1, rfl⟩ := ints_get hx
    dsimp only at hy
    split at hy
    · rw [← Option.some.inj hy]
      exact hs z H'
    · cases hy
  · intro H' s e
    refine hd H' s ?_
    show H' D = _
    rw [e]
    congr 2
    clear e s hd hs ht hS hz
    induction all with
    | nil => rfl
    | cons z r ih =>
      show List.filterMap _ (V.int z :: iV r) = _
      rw [List.filter_cons, List.filterMap_cons]
      dsimp only
      cases h : c z with
      | true => simp [ih]
      | false => simp [ih]
theorem neF {x y : V} {i : Decidable (x = y)} (h : x = y) : (!(@decide (x = y) i)) = false := by
  rw [decide_eq_true h]
  rfl
theorem eqT {x y : V} {i : Decidable (x = y)} (h : x = y) : (@decide (x = y) i) = true := decide_eq_true h
theorem neT {x y : V} {i : Decidable (x = y)} (h : x ≠ y) : (!(@decide (x = y) i)) = true := by
  rw [decide_eq_false h]
  rfl
theorem gn_go {i : Nat} {v : V} {σ : L2.St} {H : Hp} {Q : L2.St → Hp → Prop} (h : Q (σ.set i (some v)) H) : gName i v σ H Q := h
/-- [e for x, y in zip(xs, ys) if t], where t never holds -/
theorem lc_noneZ {K : PySem.W.Frag} {a b D : Addr} {xs ys : List V} {j k : Nat} {tt : TT} {te : TE} {vs : List Nat} {σ : L2.St} {H1 : Hp} {Qd : Hp → Prop} (hA : SqL K H1 a xs) (hB : SqL K H1 b ys) (nD : H1 D = Option.none)
    (hs : ∀ (i : Nat) (x y : V) (H' : Hp), xs[i]? = some x → ys[i]? = some y → Same H1 H' → Evt tt (((wipe σ vs).set j (some x)).set k (some y)) H' false) (hd : ∀ H', Same H1 H' → H' D = some (.lst []) → Qd H')
    (hw : ∀ x y : V, wipe (((wipe σ vs).set j (some x)).set k (some y)) vs = wipe σ vs := by intro x y; rfl) :
    ∃ W : Nat → Nat → Hp → Prop, (∃ m, W 0 m (upd H1 D (.lst []))) ∧ ∀ i m H, W i m H →
      ((Itz K a b).stop i H ∧ Qd H) ∨ ((Itz K a b).go i H ∧ ∃ Nx : Hp → Prop, (∀ H', Nx H' → ∃ m', m' < m ∧ W (i + 1) m' H') ∧ ∀ x H', (Itz K a b).yld i H x H' → gTup K 2 (gCons (gName j) (gCons (gName k) gNil)) x (wipe σ vs) H' fun σ2 H2 => wipe σ2 vs = wipe σ vs ∧ tt σ2 H2 fun b H3 =>
        if b = true then te σ2 H3 fun y H4 => ∃ acc, H4 D = some (.lst acc) ∧ acc.length < sizeLine ∧ Nx (upd H4 D (.lst (acc ++ [y]))) else Nx H3) := by
  refine lc_it (n := min xs.length ys.length) (walk_zip (xs := xs) (ys := ys) rfl) (fun i H => Same H1 H ∧ H D = some (.lst [])) ⟨same_new nD, upd_same⟩ (fun i H _ hp => ⟨hp.1.seq hA, hp.1.seq hB⟩) ?_ ?_
  · rintro i v H H' hi ⟨sm, eD⟩ ⟨T, x, y, rfl, nT, rfl, hx, hy⟩
    have sT : Same H (upd H T (.tup [x, y])) := same_new nT
    refine ⟨T, [x, y], rfl, .inl (.inl upd_same), rfl, x, [y], rfl, y, [], rfl, rfl, hw x y, ?_⟩
    refine hs i x y _ hx hy (sm.trans sT) _ fun H3 s3 => ?_
    rw [if_neg (by decide)]
    exact ⟨(sm.trans sT).trans s3, s3 _ _ (sT _ _ eD)⟩
  · rintro H ⟨sm, eD⟩
    exact hd H sm eD
theorem pair_get {R : Int → Int → Prop} : ∀ {xs : List Int} {i : Nat} {x y : Int}, xs.Pairwise R → xs[i]? = some x → xs[i + 1]? = some y → R x y
  | a :: b :: r, 0, x, y, h, hx, hy => by
    simp at hx hy
    rw [← hx, ← hy]
    exact (List.pairwise_cons.mp h).1 b (List.mem_cons_self ..)
  | a :: r, i + 1, x, y, h, hx, hy => pair_get (List.pairwise_cons.mp h).2 (by simpa using hx) (by simpa using hy)
  | [], i, x, y, h, hx, hy => by simp at hx
  | [a], 0, x, y, h, hx, hy => by simp at hy
theorem nx_go {D : Ends} {σ : L2.St} {H : Hp} (h : D.nx σ H) : tNext D σ H := h
end Wc

/-! the number of lines at a width. -/
namespace Wc
open PySem PySem.Spec PyProof.Rows L2

theorem lineGo_mono {w w' : Int} (hw : w ≤ w') (ns : List Int) (h : ∀ n ∈ ns, 1 ≤ n) : (∀ c c' : Int, 0 ≤ c → c' ≤ c → (lineGo w' c' ns).length ≤ (lineGo w c ns).length) ∧ (∀ c c' : Int, 0 ≤ c → (lineGo w' c' ns).length ≤ (lineGo w c ns).length + 1) := by
  induction ns with
  | nil => exact ⟨fun c c' _ _ => Nat.le_refl _, fun c c' _ => by simp [lineGo]⟩
  | cons n r ih =>
    have hn := h n (List.mem_cons_self ..)
    obtain ⟨A, B⟩ := ih fun m hm => h m (List.mem_cons_of_mem n hm)
    constructor
    · intro c c' hc hcc
      unfold lineGo
      by_cases f : c + 1 + n ≤ w
      · rw [if_pos f, if_pos (by omega)]
        exact A _ _ (by omega) (by omega)
      · rw [if_neg f]
        by_cases f' : c' + 1 + n ≤ w'
        · rw [if_pos f', List.length_cons]
          exact B _ _ (by omega)
        · rw [if_neg f', List.length_cons, List.length_cons]
          have := A n n (by omega) (Int.le_refl _)
          omega
    · intro c c' hc
      unfold lineGo
      by_cases f : c + 1 + n ≤ w
      · rw [if_pos f]
        by_cases f' : c' + 1 + n ≤ w'
        · rw [if_pos f']
          exact B _ _ (by omega)
        · rw [if_neg f', List.length_cons]
          have := A (c + 1 + n) n (by omega) (by omega)
          omega
      · rw [if_neg f, List.length_cons]
        by_cases f' : c' + 1 + n ≤ w'
        · rw [if_pos f']
          have := B n (c' + 1 + n) (by omega)
          omega
        · rw [if_neg f', List.length_cons]
          have := A n n (by omega) (Int.le_refl _)
          omega
theorem lawWrap_mono {w w' : Int} (hw : w ≤ w') {ns : List Int} (h : ∀ n ∈ ns, 1 ≤ n) : (lawWrap ns w').length ≤ (lawWrap ns w).length := by
  cases ns with
  | nil => exact Nat.le_refl _
  | cons n r =>
    rw [lawWrap_cons, lawWrap_cons]
    have hn := h n (List.mem_cons_self ..)
    exact (lineGo_mono hw r fun m hm => h m (List.mem_cons_of_mem n hm)).1 n n (by omega) (Int.le_refl _)
theorem lineGo_one {w c : Int} {ns : List Int} (h : ∀ n ∈ ns, 1 ≤ n) (hw : c + ns.sum + ns.length ≤ w) : lineGo w c ns = [c + ns.sum + ns.length] := by
  induction ns generalizing c with
  | nil => simp [lineGo]
  | cons n r ih =>
    have hn := h n (List.mem_cons_self ..)
    have hr := fun m hm => h m (List.mem_cons_of_mem n hm)
    have hl := total_nonneg_len r hr
    simp only [List.sum_cons, List.length_cons] at hw ⊢
    unfold lineGo
    rw [if_pos (by omega), ih hr (by omega)]
    congr 1
    omega
/-- at a width from the number of characters on there is one line -/
theorem lawWrap_one {ns : List Int} (ht : Txt' ns) {w : Int} (hw : total ns ≤ w) : lawWrap ns w = [total ns] := by
  obtain ⟨h0, h1, h2⟩ := ht
  cases ns with
  | nil => exact (h0 rfl).elim
  | cons n r =>
    unfold total at hw ⊢
    simp only [List.sum_cons, List.length_cons] at hw ⊢
    rw [lawWrap_cons, lineGo_one (fun m hm => h1 m (List.mem_cons_of_mem n hm)) (by omega)]
    congr 1
    omega
theorem lineGo_single {w c : Int} {ns : List Int} (h0 : ns ≠ []) (h : (lineGo w c ns).length ≤ 1) : c + ns.sum + ns.length ≤ w := by
  induction ns generalizing c with
  | nil => exact (h0 rfl).elim
  | cons n r ih =>
    unfold lineGo at h
    by_cases f : c + 1 + n ≤ w
    · rw [if_pos f] at h
      simp only [List.sum_cons, List.length_cons]
      cases r with
      | nil => simp; omega
      | cons m r =>
        have := ih (by simp) h
        simp only [List.sum_cons, List.length_cons] at this ⊢
        omega
    · rw [if_neg f, List.length_cons] at h
      have := List.length_pos_iff.mpr (lineGo_ne w n r)
      omega
theorem lawWrap_single {ns : List Int} {w : Int} (h1 : 1 < ns.length) (h : (lawWrap ns w).length ≤ 1) : total ns ≤ w := by
  cases ns with
  | nil => simp at h1
  | cons n r =>
    rw [lawWrap_cons] at h
    have := lineGo_single (by rintro rfl; simp at h1) h
    unfold total
    simp only [List.sum_cons, List.length_cons]
    omega
theorem lineGo_len (w c : Int) (ns : List Int) : (lineGo w c ns).length ≤ ns.length + 1 := by
  induction ns generalizing c with
  | nil => simp [lineGo]
  | cons n r ih =>
    unfold lineGo
    split
    · have := ih (c + 1 + n)
      simp only [List.length_cons]
      omega
    · have := ih n
      simp only [List.length_cons]
      omega
theorem lawWrap_lenle (ns : List Int) (w : Int) : (lawWrap ns w).length ≤ ns.length := by
  cases ns with
  | nil => exact Nat.le_refl _
  | cons n r =>
    rw [lawWrap_cons]
    exact lineGo_len w n r
theorem wrappedEnds_len (ns : List Int) (w : Int) : (wrappedEnds (endsOf ns) w).length = (lawWrap ns w).length := by
  rw [← endsOf_wrap, endsOf_len]
/-- r is the least width with at most m lines -/
def IsLeast (ns : List Int) (m r : Int) : Prop := 1 ≤ r ∧ r ≤ total ns ∧ ((lawWrap ns r).length : Int) ≤ m ∧ ∀ w, 1 ≤ w → w < r → m < ((lawWrap ns w).length : Int)
theorem endsOf_last {ns : List Int} (h : ns ≠ []) : (endsOf ns).getLast? = some (total ns) := by
  have hl := List.length_pos_iff.mpr h
  have e := endsFrom_get (-1) ns (ns.length - 1) (by omega)
  rw [List.getLast?_eq_getElem?, endsOf_len]
  unfold endsOf
  rw [e]
  have e2 : ns.length - 1 + 1 = ns.length := by omega
  unfold lastFrom total
  rw [e2, List.take_length]
  congr 1
  omega
theorem IsLeast.uniq {ns : List Int} {m r r' : Int} (h : IsLeast ns m r) (h' : IsLeast ns m r') : r = r' := by
  obtain ⟨a1, a2, a3, a4⟩ := h
  obtain ⟨b1, b2, b3, b4⟩ := h'
  rcases (by omega : r = r' ∨ r < r' ∨ r' < r) with h | h | h
  · exact h
  · have := b4 r a1 h
    omega
  · have := a4 r' b1 h
    omega
end Wc

/-! sorting; texts from their spaces. -/
namespace Wc
open PySem PySem.Spec PyProof.Rows L2

def srt (ns : List Int) : List Int := ns.mergeSort (fun a b => decide (a ≤ b))
theorem srt_perm (ns : List Int) : (srt ns).Perm ns := List.mergeSort_perm _ _
theorem srt_pair (ns : List Int) : (srt ns).Pairwise (· ≤ ·) := by
  have := List.pairwise_mergeSort (le := fun a b : Int => decide (a ≤ b)) (fun a b c h1 h2 => by simp at *; omega) (fun a b => by simp; omega) ns
  exact this.imp fun h => of_decide_eq_true h
theorem sort_uniq {xs ys : List Int} (p : xs.Perm ys) (h1 : xs.Pairwise (· ≤ ·)) (h2 : ys.Pairwise (· ≤ ·)) : xs = ys :=
  List.Perm.eq_of_pairwise (le := (· ≤ ·)) (fun a b _ _ h1 h2 => Int.le_antisymm h1 h2) h1 h2 p
theorem srt_of {xs ns : List Int} (p : xs.Perm ns) (h : xs.Pairwise (· ≤ ·)) : xs = srt ns := sort_uniq (p.trans (srt_perm ns).symm) h (srt_pair ns)
theorem srt_len (ns : List Int) : (srt ns).length = ns.length := (srt_perm ns).length_eq
theorem srt_eq {ns ms : List Int} (p : ns.Perm ms) : srt ns = srt ms := srt_of ((srt_perm ns).trans p) (srt_pair ns)
theorem srt_id {ns : List Int} (h : ns.Pairwise (· ≤ ·)) : srt ns = ns := (srt_of (List.Perm.refl ns) h).symm
def isSpot : PyData → Bool
  | .int i => decide (0 ≤ i)
  | _ => false
/-- text_of(characters, spaces), or none where it raises -/
def textOf (cv : V) (o : Option PyData) : Option (List Int) := match cv, o with
  | .int c, some (.list ds) => if 1 ≤ c ∧ c ≤ 600 ∧ ds.all isSpot = true ∧ areLengths (some (.list ((lengthsOf (srt (ds.map lenOf) ++ [c])).map .int))) = true then some (lengthsOf (srt (ds.map lenOf) ++ [c])) else none
  | _, _ => none
theorem dpAll_spots {K : PySem.W.Frag} {H : Hp} : ∀ {ds : List PyData} {vs : List V}, DpAll K H vs ds → ds.all isSpot = true → vs = iV (ds.map lenOf)
  | _, _, .nil, _ => rfl
  | d :: ds, v :: vs, .cons h1 h2, h => by
    rw [List.all_cons, Bool.and_eq_true] at h
    rw [dpAll_spots h2 h.2]
    cases h1 <;> simp [isSpot] at h
    rfl
/-- the spaces of a text give it back -/
theorem ends_pair (p : Int) (ns : List Int) (h : ∀ n ∈ ns, 1 ≤ n) : (endsFrom p ns).Pairwise (· ≤ ·) ∧ ∀ e ∈ endsFrom p ns, p < e := by
  induction ns generalizing p with
  | nil => exact ⟨.nil, fun e he => by cases he⟩
  | cons n ns ih =>
    have hn := h n (List.mem_cons_self ..)
    obtain ⟨a, b⟩ := ih (p + (1 + n)) fun m hm => h m (List.mem_cons_of_mem n hm)
    refine ⟨.cons (fun e he => ?_) a, fun e he => ?_⟩
    · have := b e he
      omega
    · rcases List.mem_cons.mp he with rfl | he
      · omega
      · have := b e he
        omega
theorem textOf_ends {ws : List Int} (ht : Txt' ws) : textOf (.int (total ws)) (some (.list ((endsOf ws).dropLast.map .int))) = some ws := by
  have hp := (ends_pair (-1) ws ht.2.1).1
  have hp2 : (endsOf ws).dropLast.Pairwise (· ≤ ·) := hp.sublist (List.dropLast_sublist _)
  have hne : endsOf ws ≠ [] := by
    intro e
    have := congrArg List.length e
    rw [endsOf_len] at this
    exact ht.1 (List.length_eq_zero_iff.mp this)
  have e1 : srt ((((endsOf ws).dropLast).map PyData.int).map lenOf) ++ [total ws] = endsOf ws := by
    rw [lens_ints, srt_id hp2]
    have h1 := List.dropLast_concat_getLast hne
    have h2 := endsOf_last ht.1
    rw [List.getLast?_eq_some_getLast hne] at h2
    rw [← Option.some.inj h2]
    exact h1
  have hlen := total_nonneg_len ws ht.2.1
  have hpos := List.length_pos_iff.mpr ht.1
  unfold textOf
  dsimp only
  rw [e1, lengths_ends, if_pos]
  refine ⟨?_, ht.2.2, ?_, ht.yes⟩
  · unfold total
    omega
  · rw [List.all_map, List.all_eq_true]
    intro e he
    have := (ends_pair (-1) ws ht.2.1).2 e (List.dropLast_subset _ he)
    show decide (0 ≤ e) = true
    exact decide_eq_true (by omega)
end Wc

/-! where lines end. -/
namespace Wc
open PySem PySem.Spec PyProof.Rows L2

/-- e is the end of the line that starts at s -/
def IsNx (all : List Int) (w s e : Int) : Prop := e ∈ all ∧ s < e ∧ (∀ t ∈ all, s < t → t ≤ s + w → t ≤ e) ∧ (e ≤ s + w ∨ ∀ t ∈ all, s < t → e ≤ t)
def LinesOk (all : List Int) (w : Int) : Int → List Int → Prop
  | _, [] => True
  | s, e :: es => IsNx all w s e ∧ LinesOk all w (e + 1) es
theorem IsNx.mono {all : List Int} {w w' s s' e e' : Int} (h : IsNx all w s e) (h' : IsNx all w' s' e') (hs : s ≤ s') (hw : w ≤ w') : e ≤ e' := by
  obtain ⟨a1, a2, a3, a4⟩ := h
  obtain ⟨b1, b2, b3, b4⟩ := h'
  rcases Int.lt_or_le e' e with c | c
  · rcases a4 with a4 | a4
    · exact b3 e a1 (by omega) (by omega)
    · exact a4 e' b1 (by omega)
  · exact c
theorem LinesOk.mono {all : List Int} {w w' : Int} (hw : w ≤ w') : ∀ {es es' : List Int} {s s' : Int}, LinesOk all w s es → LinesOk all w' s' es' → s ≤ s' → ∀ (i : Nat) (e e' : Int), es[i]? = some e → es'[i]? = some e' → e ≤ e'
  | e0 :: es, e0' :: es', s, s', ⟨h1, h2⟩, ⟨h1', h2'⟩, hs, 0, e, e', he, he' => by
    simp at he he'
    rw [← he, ← he']
    exact h1.mono h1' hs hw
  | e0 :: es, e0' :: es', s, s', ⟨h1, h2⟩, ⟨h1', h2'⟩, hs, i + 1, e, e', he, he' => by
    have := h1.mono h1' hs hw
    exact LinesOk.mono hw h2 h2' (by omega) i e e' (by simpa using he) (by simpa using he')
  | [], _, _, _, _, _, _, i, e, e', he, _ => by simp at he
  | _ :: _, [], _, _, _, _, _, i, e, e', _, he' => by simp at he'
theorem LinesOk.get {all : List Int} {w : Int} : ∀ {es : List Int} {s : Int}, LinesOk all w s es → ∀ (i : Nat) (a e : Int), (s :: es.map (· + 1))[i]? = some a → es[i]? = some e → IsNx all w a e
  | e0 :: es, s, ⟨h1, h2⟩, 0, a, e, ha, he => by
    simp at ha he
    rw [← ha, ← he]
    exact h1
  | e0 :: es, s, ⟨h1, h2⟩, i + 1, a, e, ha, he => by
    refine LinesOk.get h2 i a e ?_ (by simpa using he)
    simpa using ha
  | [], _, _, i, a, e, _, he => by simp at he
theorem wrapGo_ok (all : List Int) (w : Int) (r : List Int) : ∀ (s start : Int), (s :: r).Pairwise (fun a b => a + 1 < b) → (∀ t ∈ all, t ≤ s ∨ t ∈ r) → s ∈ all → (∀ t ∈ r, t ∈ all) → start < s → (s ≤ start + w ∨ ∀ t ∈ all, start < t → s ≤ t) → LinesOk all w start (wrapGo w start (s :: r)) := by
  induction r with
  | nil =>
    intro s start _ hall hs _ hss hor
    refine ⟨⟨hs, hss, fun t ht _ _ => ?_, hor⟩, trivial⟩
    rcases hall t ht with h | h
    · exact h
    · cases h
  | cons t0 r ih =>
    intro s start hp hall hs hr hss hor
    obtain ⟨hp1, hp2⟩ := List.pairwise_cons.mp hp
    have h0 := hp1 t0 (List.mem_cons_self ..)
    obtain ⟨hp3, _⟩ := List.pairwise_cons.mp hp2
    unfold wrapGo
    by_cases c : t0 > start + w
    · rw [if_pos c]
      refine ⟨⟨hs, hss, fun t ht h1 h2 => ?_, hor⟩, ?_⟩
      · rcases hall t ht with h | h
        · exact h
        · rcases List.mem_cons.mp h with rfl | h
          · omega
          · have := hp3 t h
            omega
      · refine ih t0 (s + 1) hp2 (fun t ht => ?_) (hr t0 (List.mem_cons_self ..)) (fun t ht => hr t (List.mem_cons_of_mem _ ht)) h0 (.inr fun t ht h1 => ?_)
        · rcases hall t ht with h | h
          · exact .inl (by omega)
          · rcases List.mem_cons.mp h with rfl | h
            · exact .inl (Int.le_refl _)
            · exact .inr h
        · rcases hall t ht with h | h
          · omega
          · rcases List.mem_cons.mp h with rfl | h
            · exact Int.le_refl _
            · have := hp3 t h
              omega
    · rw [if_neg c]
      refine ih t0 start hp2 (fun t ht => ?_) (hr t0 (List.mem_cons_self ..)) (fun t ht => hr t (List.mem_cons_of_mem _ ht)) (by omega) (.inl (by omega))
      rcases hall t ht with h | h
      · exact .inl (by omega)
      · rcases List.mem_cons.mp h with rfl | h
        · exact .inl (Int.le_refl _)
        · exact .inr h
theorem ends_pair2 (p : Int) (ns : List Int) (h : ∀ n ∈ ns, 1 ≤ n) : (endsFrom p ns).Pairwise (fun a b => a + 1 < b) ∧ ∀ e ∈ endsFrom p ns, p + 1 < e := by
  induction ns generalizing p with
  | nil => exact ⟨.nil, fun e he => by cases he⟩
  | cons n ns ih =>
    have hn := h n (List.mem_cons_self ..)
    obtain ⟨a, b⟩ := ih (p + (1 + n)) fun m hm => h m (List.mem_cons_of_mem n hm)
    refine ⟨.cons (fun e he => b e he) a, fun e he => ?_⟩
    rcases List.mem_cons.mp he with rfl | he
    · omega
    · have := b e he
      omega
theorem lines_ok {ns : List Int} (ht : Txt' ns) (w : Int) : LinesOk (endsOf ns) w 0 (endsOf (lawWrap ns w)) := by
  rw [endsOf_wrap]
  obtain ⟨h0, h1, _⟩ := ht
  obtain ⟨hp, hl⟩ := ends_pair2 (-1) ns h1
  unfold wrappedEnds
  cases e : endsOf ns with
  | nil => exact trivial
  | cons s r =>
    have e' : endsFrom (-1) ns = s :: r := e
    rw [e'] at hp hl
    have hs := hl s (List.mem_cons_self ..)
    obtain ⟨hp1, _⟩ := List.pairwise_cons.mp hp
    refine wrapGo_ok (s :: r) w r s 0 hp (fun t ht => ?_) (List.mem_cons_self ..) (fun t ht => List.mem_cons_of_mem _ ht) (by omega) (.inr fun t ht _ => ?_)
    · rcases List.mem_cons.mp ht with rfl | h
      · exact .inl (Int.le_refl _)
      · exact .inr h
    · rcases List.mem_cons.mp ht with rfl | h
      · exact Int.le_refl _
      · have := hp1 t h
        omega
theorem startsOf_len {es : List Int} (h : es ≠ []) : (startsOf es).length = es.length := by
  have := List.length_pos_iff.mpr h
  unfold startsOf
  rw [List.length_cons, List.length_map, List.length_dropLast]
  omega
theorem startsOf_get {es : List Int} {i : Nat} {a : Int} (h : (startsOf es)[i]? = some a) : (0 :: es.map (· + 1))[i]? = some a := by
  unfold startsOf at h
  cases i with
  | zero => exact h
  | succ i =>
    simp only [List.getElem?_cons_succ, List.getElem?_map] at h ⊢
    rw [List.dropLast_eq_take, List.getElem?_take] at h
    split at h
    · exact h
    · cases h
theorem starts_mono {ns : List Int} (ht : Txt' ns) {w w' : Int} (hw : w ≤ w') {i : Nat} {a a' : Int} (h : (startsOf (endsOf (lawWrap ns w)))[i]? = some a) (h' : (startsOf (endsOf (lawWrap ns w')))[i]? = some a') : a ≤ a' := by
  have m := LinesOk.mono hw (lines_ok ht w) (lines_ok ht w') (Int.le_refl 0)
  have g := startsOf_get h
  have g' := startsOf_get h'
  cases i with
  | zero =>
    simp at g g'
    omega
  | succ i =>
    simp only [List.getElem?_cons_succ, List.getElem?_map] at g g'
    cases e : (endsOf (lawWrap ns w))[i]? with
    | none => rw [e] at g; cases g
    | some x =>
      cases e' : (endsOf (lawWrap ns w'))[i]? with
      | none => rw [e'] at g'; cases g'
      | some x' =>
        rw [e] at g
        rw [e'] at g'
        simp at g g'
        have := m i x x' e e'
        omega
/-- the start and the length of a line -/
theorem line_at {ns : List Int} (ht : Txt' ns) {w : Int} {i : Nat} {a r : Int} (h : (startsOf (endsOf (lawWrap ns w)))[i]? = some a) (hr : (lawWrap ns w)[i]? = some r) : IsNx (endsOf ns) w a (a + r) := by
  have hi : i < (lawWrap ns w).length := (List.getElem?_eq_some_iff.mp hr).1
  have he : (endsOf (lawWrap ns w))[i]? = some ((endsOf (lawWrap ns w))[i]'(by rw [endsOf_len]; exact hi)) := List.getElem?_eq_getElem _
  have g := (lines_ok ht w).get i a _ (startsOf_get h) he
  have e2 := ends_get hr
  rw [e2] at he
  have e3 : lastEnd (lawWrap ns w) (i + 1) = a + r := by
    rw [lastEnd_succ hr]
    have : lastEnd (lawWrap ns w) i + 1 = a := by
      cases i with
      | zero =>
        have := startsOf_get h
        simp at this
        rw [← this]
        simp [lastEnd, lastFrom]
      | succ i =>
        have g := startsOf_get h
        simp only [List.getElem?_cons_succ, List.getElem?_map] at g
        obtain ⟨y, hy⟩ : ∃ y, (lawWrap ns w)[i]? = some y := ⟨_, List.getElem?_eq_getElem (by omega)⟩
        rw [ends_get hy] at g
        simpa using g
    omega
  rw [← Option.some.inj he, e3] at g
  exact g
/-! ### the greatest length as a width -/
theorem lineGo_ge (w c : Int) (ns : List Int) (h : ∀ n ∈ ns, 1 ≤ n) : ∃ l ∈ lineGo w c ns, c ≤ l := by
  induction ns generalizing c with
  | nil => exact ⟨c, by simp [lineGo], Int.le_refl _⟩
  | cons n r ih =>
    have hn := h n (List.mem_cons_self ..)
    unfold lineGo
    split
    · obtain ⟨l, h1, h2⟩ := ih (c + 1 + n) fun m hm => h m (List.mem_cons_of_mem n hm)
      exact ⟨l, h1, by omega⟩
    · exact ⟨c, List.mem_cons_self .., Int.le_refl _⟩
theorem lineGo_max {w m : Int} (hm : m ≤ w) (ns : List Int) (h : ∀ n ∈ ns, 1 ≤ n) : ∀ c, (∀ l ∈ lineGo w c ns, l ≤ m) → lineGo m c ns = lineGo w c ns := by
  induction ns with
  | nil => intro c _; rfl
  | cons n r ih =>
    have hr := fun m hm => h m (List.mem_cons_of_mem n hm)
    intro c hl
    unfold lineGo at hl ⊢
    by_cases f : c + 1 + n ≤ w
    · rw [if_pos f] at hl ⊢
      obtain ⟨l, h1, h2⟩ := lineGo_ge w (c + 1 + n) r hr
      have := hl l h1
      rw [if_pos (by omega)]
      exact ih hr _ hl
    · rw [if_neg f] at hl ⊢
      rw [if_neg (by omega), ih hr n fun l hl' => hl l (List.mem_cons_of_mem _ hl')]
theorem lawWrap_max {ns : List Int} (h : ∀ n ∈ ns, 1 ≤ n) {w m : Int} (hm : m ≤ w) (hl : ∀ l ∈ lawWrap ns w, l ≤ m) : lawWrap ns m = lawWrap ns w := by
  cases ns with
  | nil => rfl
  | cons n r =>
    rw [lawWrap_cons] at hl ⊢
    rw [lawWrap_cons]
    exact lineGo_max hm r (fun m hm => h m (List.mem_cons_of_mem n hm)) n hl
/-! ### the beginning of a text -/
theorem lawWrap_prefix {ns : List Int} (w : Int) {m : Nat} (h0 : 1 ≤ m) (hne : ns ≠ []) : (lawWrap (ns.take m) w).dropLast = (lawWrap ns w).take ((lawWrap (ns.take m) w).length - 1) := by
  have e : lawWrap ns w = (ns.drop m).foldl (lineStep w) (lawWrap (ns.take m) w) := by
    unfold lawWrap
    rw [← List.foldl_append, List.take_append_drop]
  have hp : lawWrap (ns.take m) w ≠ [] := by
    cases ns with
    | nil => exact (hne rfl).elim
    | cons n r =>
      cases m with
      | zero => omega
      | succ m =>
        rw [List.take_succ_cons, lawWrap_cons]
        exact lineGo_ne _ _ _
  generalize lawWrap (ns.take m) w = part at e hp
  rcases List.eq_nil_or_concat part with rfl | ⟨ys, c, rfl⟩
  · exact (hp rfl).elim
  · rw [List.concat_eq_append] at e ⊢
    rw [e, lines_fold]
    simp
theorem ends_snoc {ns : List Int} (h : ns ≠ []) : (endsOf ns).dropLast ++ [total ns] = endsOf ns := by
  have hne : endsOf ns ≠ [] := by
    intro e
    have := congrArg List.length e
    rw [endsOf_len] at this
    exact h (List.length_eq_zero_iff.mp this)
  have h1 := List.dropLast_concat_getLast hne
  have h2 := endsOf_last h
  rw [List.getLast?_eq_some_getLast hne] at h2
  rw [← Option.some.inj h2]
  exact h1
theorem endsOf_ne {ns : List Int} (h : ns ≠ []) : endsOf ns ≠ [] := by
  intro e
  have := congrArg List.length e
  rw [endsOf_len] at this
  exact h (List.length_eq_zero_iff.mp this)
/-- the last of the stops within the room of a line, or the first one behind its start -/
theorem near_last {all : List Int} {w s e : Int} (h : IsNx all w s e) (hp : all.Pairwise (· ≤ ·)) (hne : (all.filter fun t => decide (s < t) && decide (t ≤ s + w)) ≠ []) : (all.filter fun t => decide (s < t) && decide (t ≤ s + w)).getLast? = some e := by
  obtain ⟨h1, h2, h3, h4⟩ := h
  have hm : ∀ t, t ∈ (all.filter fun t => decide (s < t) && decide (t ≤ s + w)) ↔ t ∈ all ∧ s < t ∧ t ≤ s + w := by
    intro t
    simp [List.mem_filter]
  have he : e ∈ (all.filter fun t => decide (s < t) && decide (t ≤ s + w)) := by
    rw [hm]
    refine ⟨h1, h2, ?_⟩
    rcases h4 with h4 | h4
    · exact h4
    · obtain ⟨t, ht⟩ := List.exists_mem_of_ne_nil _ hne
      rw [hm] at ht
      have := h4 t ht.1 ht.2.1
      omega
  have hp2 := hp.sublist (List.filter_sublist (p := fun t => decide (s < t) && decide (t ≤ s + w)) (l := all))
  generalize (all.filter fun t => decide (s < t) && decide (t ≤ s + w)) = near at hne hm he hp2
  rw [List.getLast?_eq_some_getLast hne]
  congr 1
  have hl : near.getLast hne ∈ near := List.getLast_mem hne
  have h5 := (hm _).mp hl
  have h6 := h3 _ h5.1 h5.2.1 h5.2.2
  have h7 : e ≤ near.getLast hne := by
    rw [← List.dropLast_concat_getLast hne] at he hp2
    rcases List.mem_append.mp he with he | he
    · exact (List.pairwise_append.mp hp2).2.2 e he _ (by simp)
    · rw [List.mem_singleton.mp he]
      exact Int.le_refl _
  omega
theorem near_min {all : List Int} {w s e : Int} (h : IsNx all w s e) (hne : (all.filter fun t => decide (s < t) && decide (t ≤ s + w)) = []) {m : Int} (hm : m ∈ all.filter fun t => decide (t > s)) (hle : ∀ y ∈ all.filter (fun t => decide (t > s)), m ≤ y) : m = e := by
  obtain ⟨h1, h2, h3, h4⟩ := h
  have hm' : m ∈ all ∧ m > s := by simpa [List.mem_filter] using hm
  have h5 := hle e (by simp [List.mem_filter]; exact ⟨h1, h2⟩)
  rcases h4 with h4 | h4
  · have : e ∈ (all.filter fun t => decide (s < t) && decide (t ≤ s + w)) := by
      simp [List.mem_filter]
      exact ⟨h1, h2, h4⟩
    rw [hne] at this
    cases this
  · have := h4 m hm'.1 hm'.2
    omega
theorem ends_le {ns : List Int} (ht : Txt' ns) : (endsOf ns).Pairwise (· ≤ ·) := (ends_pair (-1) ns ht.2.1).1
theorem Txt'.take {ns : List Int} (h : Txt' ns) {m : Nat} (hm : 1 ≤ m) : Txt' (ns.take m) := by
  obtain ⟨h0, h1, h2⟩ := h
  refine ⟨?_, fun n hn => h1 n (List.take_subset _ _ hn), ?_⟩
  · intro e
    have := congrArg List.length e
    rw [List.length_take, List.length_nil] at this
    have := List.length_pos_iff.mpr h0
    omega
  · have e : ns.sum = (ns.take m).sum + (ns.drop m).sum := by rw [← List.sum_append, List.take_append_drop]
    have h3 := total_nonneg_len (ns.drop m) fun n hn => h1 n (List.drop_subset _ _ hn)
    have h4 : ns.length = (ns.take m).length + (ns.drop m).length := by rw [← List.length_append, List.take_append_drop]
    unfold total at h2 ⊢
    omega
end Wc

/-! a deck of draws. -/
namespace Wc
open PySem PySem.Spec PyProof.Rows L2

/-- what stood ahead stands, what is written of S aside -/
def SameS (S : List Addr) (H H' : Hp) : Prop := ∀ b o, b ∉ S → H b = some o → H' b = some o
theorem SameS.refl (S : List Addr) (H : Hp) : SameS S H H := fun _ _ _ h => h
theorem SameS.trans {S : List Addr} {H H1 H2 : Hp} (s : SameS S H H1) (t : SameS S H1 H2) : SameS S H H2 := fun b o n h => t b o n (s b o n h)
theorem SameS.of {S : List Addr} {H H' : Hp} (s : Same H H') : SameS S H H' := fun b o _ h => s b o h
theorem SameS.all {S : List Addr} {H H1 H2 : Hp} (s0 : Same H H1) (n : ∀ b ∈ S, H b = Option.none) (s : SameS S H1 H2) : Same H H2 := fun b o e => s b o (fun hb => by
  rw [n b hb] at e
  cases e) (s0 b o e)
theorem SameS.at {S : List Addr} {H H' : Hp} {b : Addr} {o : HO} (s : SameS S H H') (n : b ∉ S) (h : H b = some o) : H' b = some o := s b o n h
theorem SameS.il {S : List Addr} {H H' : Hp} {b : Addr} {ns : List Int} (s : SameS S H H') (n : b ∉ S) (h : IL H b ns) : IL H' b ns := s b _ n h
theorem SameS.upd {S : List Addr} {H : Hp} {a : Addr} {o : HO} (h : a ∈ S) : SameS S H (upd H a o) := fun b x n e => by
  rw [upd_ne (fun z => n (by rw [z]; exact h))]
  exact e
theorem SameS.mut {S : List Addr} {H H' : Hp} {p : Addr} {u : HO} (s : SameS S H H') (h : H p = Option.none) : SameS S H (L2.upd H' p u) := fun b x n e => by
  rw [upd_ne (ne_of_none e h)]
  exact s b x n e
theorem SameS.dp {S : List Addr} {K : PySem.W.Frag} {H H' : Hp} {v : V} {d : PyData} (s : SameS S H H') (h : ∀ H'', (∀ b o, b ∉ S → H b = some o → H'' b = some o) → Dp K H'' v d) : Dp K H' v d := h H' s
/-- a pool of a deck -/
def Pool (H : Hp) (n : Nat) (b : Addr) : Prop := ∃ c f m : Int, H b = some (.lst [.int c, .int f, .int m]) ∧ 0 ≤ m ∧ m ≤ 2000 + n
/-- the deck stands at a, its list of pools and its pools at qs: less than so many draws so far -/
structure Deck (H : Hp) (a : Addr) (qs : List Addr) (n : Nat) : Prop where
  ex : ∃ (p : Addr) (ps : List Addr) (t : Int), qs = p :: ps ∧ H a = some (.lst [.ref p, .int t]) ∧ H p = some (.lst (ps.map V.ref)) ∧ 0 ≤ t ∧ t ≤ n ∧ ps ≠ [] ∧ ∀ b ∈ ps, Pool H n b
  nd : (a :: qs).Nodup
theorem Pool.same {H H' : Hp} {n : Nat} {b : Addr} (s : Same H H') (h : Pool H n b) : Pool H' n b := let ⟨c, f, m, e, r⟩ := h; ⟨c, f, m, s _ _ e, r⟩
theorem Pool.mono {H : Hp} {n n' : Nat} {b : Addr} (h : Pool H n b) (l : n ≤ n') : Pool H n' b := let ⟨c, f, m, e, h1, h2⟩ := h; ⟨c, f, m, e, h1, by omega⟩
theorem Deck.same {H H' : Hp} {a : Addr} {qs : List Addr} {n : Nat} (s : Same H H') (h : Deck H a qs n) : Deck H' a qs n := by
  obtain ⟨⟨p, ps, t, h0, h1, h2, h3, h4, h5, h6⟩, h7⟩ := h
  exact ⟨⟨p, ps, t, h0, s _ _ h1, s _ _ h2, h3, h4, h5, fun b hb => (h6 b hb).same s⟩, h7⟩
theorem Deck.mono {H : Hp} {a : Addr} {qs : List Addr} {n m : Nat} (h : Deck H a qs n) (l : n ≤ m) : Deck H a qs m := by
  obtain ⟨⟨p, ps, t, h0, h1, h2, h3, h4, h5, h6⟩, h7⟩ := h
  exact ⟨⟨p, ps, t, h0, h1, h2, h3, by omega, h5, fun b hb => (h6 b hb).mono l⟩, h7⟩
/-- a new object is none of the deck's -/
theorem Deck.fresh {H : Hp} {a : Addr} {qs : List Addr} {n : Nat} {x : Addr} (h : Deck H a qs n) (hx : H x = Option.none) : x ∉ a :: qs := by
  obtain ⟨⟨p, ps, t, rfl, h1, h2, h3, h4, h5, h6⟩, h7⟩ := h
  intro hm
  rcases List.mem_cons.mp hm with rfl | hm
  · rw [hx] at h1
    cases h1
  · rcases List.mem_cons.mp hm with rfl | hm
    · rw [hx] at h2
      cases h2
    · obtain ⟨c, f, m, e, _⟩ := h6 x hm
      rw [hx] at e
      cases e
theorem Deck.new {H : Hp} {a x : Addr} {qs : List Addr} {n : Nat} {u : HO} (h : Deck H a qs n) (hx : H x = Option.none) : Deck (upd H x u) a qs n := h.same (same_new hx)
/-- what is none of the deck's may change -/
theorem Deck.mut {H : Hp} {a x : Addr} {qs : List Addr} {n : Nat} {u : HO} (h : Deck H a qs n) (hx : x ∉ a :: qs) : Deck (upd H x u) a qs n := by
  obtain ⟨⟨p, ps, t, rfl, h1, h2, h3, h4, h5, h6⟩, h7⟩ := h
  have hxa : a ≠ x := fun e => hx (by rw [e]; exact List.mem_cons_self ..)
  have hxp : p ≠ x := fun e => hx (by rw [e]; exact List.mem_cons_of_mem _ (List.mem_cons_self ..))
  refine ⟨⟨p, ps, t, rfl, at_mut h1 hxa, at_mut h2 hxp, h3, h4, h5, fun b hb => ?_⟩, h7⟩
  obtain ⟨c, f, m, e, r⟩ := h6 b hb
  exact ⟨c, f, m, at_mut e (fun e => hx (by rw [← e]; exact List.mem_cons_of_mem _ (List.mem_cons_of_mem _ hb))), r⟩
/-- what the deck's objects are no part of stands where it stood ahead -/
theorem SameS.free {S : List Addr} {H H' : Hp} {x : Addr} (s : SameS S H H') (n : x ∉ S) (h : H' x = Option.none) : H x = Option.none := by
  cases e : H x with
  | none => rfl
  | some o =>
    have := s x o n e
    rw [h] at this
    cases this
theorem ne_of_notin {x b : Addr} {S : List Addr} (h : x ∉ S) (hb : b ∈ S) : x ≠ b := fun e => h (by rw [e]; exact hb)
theorem Deck.draw {H : Hp} {a p b : Addr} {ps : List Addr} {n : Nat} {t c f m : Int} (h : Deck H a (p :: ps) n) (ha : H a = some (.lst [.ref p, .int t])) (hb : b ∈ ps) (h1 : 0 ≤ m) (h2 : m ≤ 2000 + (n + 1 : Nat)) :
    Deck (upd (upd H a (.lst [.ref p, .int (t + 1)])) b (.lst [.int c, .int f, .int m])) a (p :: ps) (n + 1) := by
  obtain ⟨⟨p', ps', t', e0, e1, e2, t1, t2, ne, hp⟩, nd⟩ := h
  rw [ha] at e1
  cases e1
  cases e0
  obtain ⟨na, nd2⟩ := List.nodup_cons.mp nd
  obtain ⟨n2, nd3⟩ := List.nodup_cons.mp nd2
  have hab : a ≠ b := fun e => na (by rw [e]; exact List.mem_cons_of_mem _ hb)
  have hpb : p ≠ b := fun e => n2 (by rw [e]; exact hb)
  have hpa : p ≠ a := fun e => na (by rw [e]; exact List.mem_cons_self ..)
  refine ⟨⟨p, ps, t + 1, rfl, ?_, ?_, by omega, by omega, ne, fun x hx => ?_⟩, nd⟩
  · rw [upd_ne hab, upd_same]
  · rw [upd_ne hpb, upd_ne hpa]
    exact e2
  · by_cases c1 : x = b
    · rw [c1]
      exact ⟨_, _, _, upd_same, h1, h2⟩
    · obtain ⟨c', f', m', e', r1, r2⟩ := hp x hx
      have hxa : x ≠ a := fun e => na (by rw [← e]; exact List.mem_cons_of_mem _ hx)
      exact ⟨c', f', m', by rw [upd_ne c1, upd_ne hxa]; exact e', r1, by omega⟩
theorem fmod_rng (c m : Int) (hm : 0 < m) : 0 ≤ Int.fmod c m ∧ Int.fmod c m < m := ⟨Int.fmod_nonneg_of_pos c hm, Int.fmod_lt_of_pos c hm⟩
theorem wide_of {i j : Int} (hi : i.natAbs < 2 ^ 4000) (hj : j.natAbs < 2 ^ 4000) : CMulW i j := wide_mul hi hj (by decide) (by decide) (by decide)
theorem small_of {i : Int} {k : Nat} (h : i.natAbs < 2 ^ k) (hk : k ≤ 4000) : i.natAbs < 2 ^ 4000 := Nat.lt_of_lt_of_le h (Nat.pow_le_pow_right (by decide) hk)
theorem isi_seq {K : PySem.W.Frag} (o : Option PyData) : PySem.W.kitAny K (.type (cls o)) [.type "list", .type "tuple"] = some (match o with | some (.list _) => true | some (.tuple _) => true | _ => false) := by
  unfold PySem.W.kitAny
  rw [isi_list, isI_list]
  unfold PySem.W.kitAny
  rw [isi_tuple, isI_tuple]
  cases o with
  | none => rfl
  | some d => cases d <;> rfl
theorem Dp.ty {K : PySem.W.Frag} {H : Hp} {v : V} {d : PyData} (h : Dp K H v d) : TyX K H v (.type (cls (some d))) := by
  cases h with
  | non => exact .base .non
  | bl b => exact .base (.bl b)
  | int i => exact .base (.int i)
  | str x => exact .base (.str x)
  | lst h _ => exact SqL.ty h
  | tup h _ => exact SqT.ty h
theorem lay_mem {d : PyData} : ∀ {ds : List PyData}, PyData.canLayAll0 ds = true → d ∈ ds → d.canLay0 = true
  | e :: ds, h, hm => by
    have h1 : e.canLay0 = true ∧ PyData.canLayAll0 ds = true := by simpa [PyData.canLayAll0] using h
    rcases List.mem_cons.mp hm with rfl | hm
    · exact h1.1
    · exact lay_mem h1.2 hm
theorem depth_mem {d : PyData} : ∀ {ds : List PyData}, d ∈ ds → d.depth ≤ PyData.depthAll ds
  | e :: ds, hm => by
    rw [PyData.depthAll]
    rcases List.mem_cons.mp hm with rfl | hm
    · exact Nat.le_max_left _ _
    · exact Nat.le_trans (depth_mem hm) (Nat.le_max_right _ _)
/-- zip of two tuples, turn by turn -/
theorem walk_zipTT {K : PySem.W.Frag} {a b : Addr} {xs ys : List V} (hl : ys.length = xs.length) : Walk (RZ.ItzT K a b) xs.length (fun H => SqT K H a xs ∧ SqT K H b ys) (YPair (fun i => xs[i]?) (fun i => ys[i]?)) where
  goes := fun i H hi q => ⟨xs, ys, xs[i], ys[i]'(by omega), q.1, q.2, List.getElem?_eq_getElem hi, List.getElem?_eq_getElem (by omega)⟩
  stops := fun H q => ⟨xs, ys, q.1, q.2, .inl (Nat.le_refl _)⟩
  yields := fun i H v H' _ q y => by
    obtain ⟨T, u, z, g1, g2, g3, g4, g5⟩ := y
    exact ⟨T, u, z, g1, g2, g3, g4 _ q.1, g5 _ q.2⟩
theorem lc_noneZT {K : PySem.W.Frag} {a b D : Addr} {xs ys : List V} {j k : Nat} {tt : TT} {te : TE} {vs : List Nat} {σ : L2.St} {H1 : Hp} {Qd : Hp → Prop} (hl : ys.length = xs.length) (hA : SqT K H1 a xs) (hB : SqT K H1 b ys) (nD : H1 D = Option.none)
    (hs : ∀ (i : Nat) (x y : V) (H' : Hp), xs[i]? = some x → ys[i]? = some y → Same H1 H' → Evt tt (((wipe σ vs).set j (some x)).set k (some y)) H' false) (hd : ∀ H', Same H1 H' → H' D = some (.lst []) → Qd H')
    (hw : ∀ x y : V, wipe (((wipe σ vs).set j (some x)).set k (some y)) vs = wipe σ vs := by intro x y; rfl) :
    ∃ W : Nat → Nat → Hp → Prop, (∃ m, W 0 m (upd H1 D (.lst []))) ∧ ∀ i m H, W i m H →
      ((RZ.ItzT K a b).stop i H ∧ Qd H) ∨ ((RZ.ItzT K a b).go i H ∧ ∃ Nx : Hp → Prop, (∀ H', Nx H' → ∃ m', m' < m ∧ W (i + 1) m' H') ∧ ∀ x H', (RZ.ItzT K a b).yld i H x H' → gTup K 2 (gCons (gName j) (gCons (gName k) gNil)) x (wipe σ vs) H' fun σ2 H2 => wipe σ2 vs = wipe σ vs ∧ tt σ2 H2 fun b H3 =>
        if b = true then te σ2 H3 fun y H4 => ∃ acc, H4 D = some (.lst acc) ∧ acc.length < sizeLine ∧ Nx (upd H4 D (.lst (acc ++ [y]))) else Nx H3) := by
  refine lc_it (n := xs.length) (walk_zipTT hl) (fun i H => Same H1 H ∧ H D = some (.lst [])) ⟨same_new nD, upd_same⟩ (fun i H _ hp => ⟨SqT.same hp.1 hA, SqT.same hp.1 hB⟩) ?_ ?_
  · rintro i v H H' hi ⟨sm, eD⟩ ⟨T, x, y, rfl, nT, rfl, hx, hy⟩
    have sT : Same H (upd H T (.tup [x, y])) := same_new nT
    refine ⟨T, [x, y], rfl, .inl (.inl upd_same), rfl, x, [y], rfl, y, [], rfl, rfl, hw x y, ?_⟩
    refine hs i x y _ hx hy (sm.trans sT) _ fun H3 s3 => ?_
    rw [if_neg (by decide)]
    exact ⟨(sm.trans sT).trans s3, s3 _ _ (sT _ _ eD)⟩
  · rintro H ⟨sm, eD⟩
    exact hd H sm eD
theorem Txt'.drop {ns : List Int} (h : Txt' ns) {m : Nat} (hm : m < ns.length) : Txt' (ns.drop m) := by
  obtain ⟨h0, h1, h2⟩ := h
  refine ⟨?_, fun n hn => h1 n (List.drop_subset _ _ hn), ?_⟩
  · intro e
    have := congrArg List.length e
    rw [List.length_drop, List.length_nil] at this
    omega
  · have e : ns.sum = (ns.take m).sum + (ns.drop m).sum := by rw [← List.sum_append, List.take_append_drop]
    have h3 := total_nonneg_len (ns.take m) fun n hn => h1 n (List.take_subset _ _ hn)
    have h4 : ns.length = (ns.take m).length + (ns.drop m).length := by rw [← List.length_append, List.take_append_drop]
    unfold total at h2 ⊢
    omega
end Wc

/-! rules whose readings name the written part K itself: they serve inside comprehensions. -/
namespace Wc
open PySem PySem.Spec PyProof.Rows L2
section
variable {X : Cx} {K : PySem.W.Frag}
def rLenQ (K : PySem.W.Frag) : List V → Hp → VK → Prop := fun xs H Q => ∃ p ys, xs = [.ref p] ∧ (SqL K H p ys ∨ SqT K H p ys) ∧ Q (.int ys.length) H
theorem kLen (e : X.K = K) : CallR X (.builtin "len") (rLenQ K) := by
  subst e
  exact call_len_seq
theorem kIsi (e : X.K = K) : CallR X (.builtin "isinstance") (rIsi K) := by
  subst e
  exact call_isi
theorem kIsiT (e : X.K = K) : CallR X (.builtin "isinstance") (rIsiT K) := by
  subst e
  exact call_isiT
theorem kSum (e : X.K = K) (hc : X.calm = true) : CallR X (.builtin "sum") (rSum K) := by
  subst e
  exact cr_sum hc
theorem kMax (e : X.K = K) (hc : X.calm = true) : CallR X (.builtin "max") (rMax K) := by
  subst e
  exact cr_max hc
theorem kMin (e : X.K = K) (hc : X.calm = true) : CallR X (.builtin "min") (rMin K) := by
  subst e
  exact cr_min hc
theorem kAll (e : X.K = K) (hc : X.calm = true) : CallR X (.builtin "all") (rAll K) := by
  subst e
  exact cr_all hc
theorem kAny (e : X.K = K) (hc : X.calm = true) : CallR X (.builtin "any") (rAny K) := by
  subst e
  exact cr_any hc
theorem kSorted (e : X.K = K) : CallR X (.builtin "sorted") (rSortedI K) := by
  subst e
  exact cr_sortedI
theorem kIx (e : X.K = K) : IxR X (rIxL K) := by
  subst e
  exact ix_list
theorem kSl (e : X.K = K) : SlR X (rSlL K) := by
  subst e
  exact sl_list
theorem kEqD (e : X.K = K) (hu : X.A.units + 64 < cLine) : OpR X (compareOp .Eq) (rEqD K) := by
  subst e
  exact op_eqD hu
theorem kNeD (e : X.K = K) (hu : X.A.units + 64 < cLine) : OpR X (compareOp .NotEq) (rNeD K) := by
  subst e
  exact op_neD hu
theorem kIn (e : X.K = K) : OpR X (compareOp .In) (rIn K false) := by
  subst e
  exact op_in_seq
theorem kNotIn (e : X.K = K) : OpR X (compareOp .NotIn) (rIn K true) := by
  subst e
  exact op_notIn_seq
end
theorem rgV_ints (n : Nat) : rgV 0 (n : Int) = iV ((List.range n).map fun i : Nat => (i : Int)) := by
  have e : ((n : Int) - 0).toNat = n := by omega
  show (List.range ((n : Int) - 0).toNat).map (fun i : Nat => V.int (0 + (i : Int))) = ((List.range n).map fun i : Nat => (i : Int)).map V.int
  rw [e, List.map_map]
  refine List.map_congr_left fun i _ => ?_
  show V.int (0 + (i : Int)) = V.int i
  congr 1
  omega
end Wc

/-! the words at which lines start. -/
namespace Wc
open PySem PySem.Spec PyProof.Rows L2

/-- the later lines' first words: k the next word's index, c the present line's length -/
def firstsGo (w : Int) : Nat → Int → List Int → List Int
  | _, _, [] => []
  | k, c, n :: r => if c + 1 + n ≤ w then firstsGo w (k + 1) (c + 1 + n) r else (k : Int) :: firstsGo w (k + 1) n r
/-- the first words of the lines, from word k on -/
def firstsOf (ns : List Int) (w : Int) (k : Nat) : List Int := match ns.drop k with
  | [] => []
  | n :: r => (k : Int) :: firstsGo w (k + 1) n r
theorem drop_get {ns : List Int} {k : Nat} {n : Int} (h : ns[k]? = some n) : ns.drop k = n :: ns.drop (k + 1) := by
  have h1 := (List.getElem?_eq_some_iff.mp h)
  obtain ⟨h2, h3⟩ := h1
  rw [← h3]
  exact List.drop_eq_getElem_cons h2
theorem firstsGo_len (w : Int) (r : List Int) : ∀ (k : Nat) (c : Int), (firstsGo w k c r).length ≤ r.length := by
  induction r with
  | nil => intro k c; simp [firstsGo]
  | cons n r ih =>
    intro k c
    unfold firstsGo
    split
    · have := ih (k + 1) (c + 1 + n)
      simp only [List.length_cons]
      omega
    · have := ih (k + 1) n
      simp only [List.length_cons]
      omega
theorem firstsOf_len (ns : List Int) (w : Int) (k : Nat) : (firstsOf ns w k).length ≤ ns.length := by
  unfold firstsOf
  cases e : ns.drop k with
  | nil => simp
  | cons n r =>
    have h1 := firstsGo_len w r (k + 1) n
    have h2 := congrArg List.length e
    rw [List.length_drop, List.length_cons] at h2
    simp only [List.length_cons]
    omega
theorem firstsGo_rng (w : Int) (r : List Int) : ∀ (k : Nat) (c : Int), ∀ x ∈ firstsGo w k c r, 0 ≤ x ∧ x < k + r.length := by
  induction r with
  | nil =>
    intro k c x hx
    simp [firstsGo] at hx
  | cons n r ih =>
    intro k c x hx
    unfold firstsGo at hx
    split at hx
    · have := ih _ _ x hx
      simp only [List.length_cons]
      omega
    · rcases List.mem_cons.mp hx with rfl | hx
      · simp only [List.length_cons]
        omega
      · have := ih _ _ x hx
        simp only [List.length_cons]
        omega
theorem firstsOf_rng {ns : List Int} {w : Int} {k : Nat} (x : Int) (hx : x ∈ firstsOf ns w k) : 0 ≤ x ∧ x < ns.length := by
  unfold firstsOf at hx
  split at hx
  · cases hx
  · next n r e =>
    have h2 := congrArg List.length e
    rw [List.length_drop, List.length_cons] at h2
    rcases List.mem_cons.mp hx with rfl | hx
    · omega
    · have := firstsGo_rng w r _ _ x hx
      omega
/-- the first word at which lines start in both wraps -/
def meetOf (ns : List Int) (w : Int) (i j : Nat) : Option Int := ((firstsOf ns w i).filter fun x => decide (x ∈ firstsOf ns w j)).head?
def optV : Option Int → V
  | some k => .int k
  | none => .non
def optD : Option Int → PyData
  | some k => .int k
  | none => .none
theorem opt_dp {K : PySem.W.Frag} {H : Hp} (o : Option Int) : Dp K H (optV o) (optD o) := by
  cases o with
  | none => exact .non
  | some k => exact .int k
theorem inV_ints (x : Int) : ∀ xs : List Int, inV (.int x) (iV xs) = decide (x ∈ xs)
  | [] => by simp [inV]
  | y :: ys => by
    have h := inV_ints x ys
    unfold inV at h ⊢
    show (V.int y :: iV ys).any (fun y => eqV y (V.int x)) = _
    rw [List.any_cons, h]
    by_cases c : y = x
    · subst c
      simp [eqV]
    · have c' : ¬ x = y := fun e => c e.symm
      simp [eqV, c, c']
theorem flat_ints (xs : List Int) : (iV xs).all flatV = true := by
  rw [List.all_map, List.all_eq_true]
  intro x _
  rfl
theorem firstsGo_asc (w : Int) (r : List Int) : ∀ (k : Nat) (c : Int), (firstsGo w k c r).Pairwise (· < ·) ∧ ∀ x ∈ firstsGo w k c r, (k : Int) ≤ x := by
  induction r with
  | nil => exact fun k c => ⟨.nil, fun x hx => by simp [firstsGo] at hx⟩
  | cons n r ih =>
    intro k c
    unfold firstsGo
    split
    · obtain ⟨a, b⟩ := ih (k + 1) (c + 1 + n)
      exact ⟨a, fun x hx => by have := b x hx; omega⟩
    · obtain ⟨a, b⟩ := ih (k + 1) n
      refine ⟨.cons (fun x hx => by have := b x hx; omega) a, fun x hx => ?_⟩
      rcases List.mem_cons.mp hx with rfl | hx
      · exact Int.le_refl _
      · have := b x hx
        omega
theorem firstsOf_asc (ns : List Int) (w : Int) (k : Nat) : (firstsOf ns w k).Pairwise (· < ·) := by
  unfold firstsOf
  split
  · exact .nil
  · next n r e =>
    obtain ⟨a, b⟩ := firstsGo_asc w r (k + 1) n
    exact .cons (fun x hx => by have := b x hx; omega) a
theorem asc_ext {xs ys : List Int} (h1 : xs.Pairwise (· < ·)) (h2 : ys.Pairwise (· < ·)) (h : ∀ z, z ∈ xs ↔ z ∈ ys) : xs = ys := by
  have n1 : xs.Nodup := h1.imp fun h => by omega
  have n2 : ys.Nodup := h2.imp fun h => by omega
  exact sort_uniq ((List.perm_ext_iff_of_nodup n1 n2).mpr h) (h1.imp fun h => by omega) (h2.imp fun h => by omega)
theorem meetOf_comm (ns : List Int) (w : Int) (i j : Nat) : meetOf ns w i j = meetOf ns w j i := by
  unfold meetOf
  congr 1
  refine asc_ext ((firstsOf_asc ns w i).sublist List.filter_sublist) ((firstsOf_asc ns w j).sublist List.filter_sublist) fun z => ?_
  simp only [List.mem_filter, decide_eq_true_eq]
  exact ⟨fun h => ⟨h.2, h.1⟩, fun h => ⟨h.2, h.1⟩⟩
theorem meetOf_rng {ns : List Int} {w : Int} {i j : Nat} {k : Int} (h : meetOf ns w i j = some k) : 0 ≤ k ∧ k < ns.length := by
  unfold meetOf at h
  have := List.mem_of_mem_head? (by rw [h]; rfl)
  exact firstsOf_rng k (List.mem_filter.mp this).1
theorem Nc.opt {ns : List Int} {w : Int} {i j : Nat} (hl : ns.length ≤ 1000) : Nc 2000 0 (optD (meetOf ns w i j)) := by
  cases e : meetOf ns w i j with
  | none => exact Nc.non.mono (by decide) (Nat.le_refl _)
  | some k =>
    have := meetOf_rng e
    exact Nc.int (sm_of (by omega))
end Wc

/-! calls within a try: what the callee lets out goes to the handler, at the slots as they stand. -/
namespace Wc
open PySem PySem.Spec PyProof.Rows L2
section
variable {X : Cx} {CX : CXT} {k : Nat} {x : Str} {ps ks : List Str} {is : List Nat} {dvs : List V} {sp : Sp} {E : L2.St → XK} {p pos : Pos} {e : Expr} {es : List Expr} {kws : List Keyword} {t tk : TA}
theorem pe_calS (c : Cal X.prog X.w X.K X.mg X.base CX k x ps dvs sp) (hr : Room k X.A) (hx : ∀ σ, PassesAt CX X σ (E σ)) (ha : PA X (e :: es) t) (hg : Gl X x := by rfl) (hdb : (x == ("__debug__" : Str)) = false := by decide)
    (he : starEach (e :: es) X.env = (false, eval e X.env) :: starEach es X.env := by rfl) (hpl : (backTo pos (starEach es X.env)).any (·.1) = false := by rfl) :
    PE X (.Call (.Name x p) (e :: es) [] pos) (tCallSD sp dvs E t) := by
  obtain ⟨f, fd, ds, F, hm, hk, hd, hb⟩ := c.ex
  exact pe_callSD F hr hg hm hk hb hd hx ha hdb he hpl
def tCKS (m : Nat) (is : List Nat) (sp : Sp) (E : L2.St → XK) (tk : TA) : TE := fun σ H Q => tk σ H fun zs H1 => zs.length = m ∧ sp (is.map fun i => zs.getD i .non) H1 Q (E σ)
theorem pe_calKS (c : CalK X.prog X.w X.K X.mg X.base CX k x ps ks is sp) (hr : Room k X.A) (hx : ∀ σ, PassesAt CX X σ (E σ)) (hkw : PK X kws tk) (hg : Gl X x := by rfl)
    (hall : (backToKw pos (keywordEach kws X.env)).all (·.1.isSome) = true := by rfl) (hks : (backToKw pos (keywordEach kws X.env)).filterMap (·.1) = ks := by rfl) (hdb : (x == ("__debug__" : Str)) = false := by decide)
    (hpl : ((backTo pos (starEach [] X.env)).any (·.1) || (backToKw pos (keywordEach kws X.env)).any (·.1.isNone)) = false := by rfl) :
    PE X (.Call (.Name x p) [] kws pos) (tCKS ks.length is sp E tk) := by
  obtain ⟨f, fd, F, hm, hk, hb⟩ := c.ex
  constructor
  intro pins s σ H Q I h
  refine wpAny_Call_Name_kw (ld_glob I hg hm ?_ hdb)
  refine PySem.W.callWith_KW0 (h₀ := X.base) I.ok.mod.kin hk hall (thn (hkw.run pos pins s σ H _ I h) ?_) hpl
  rintro ws s2 ⟨zs, H2, I2, rz, l2, q2⟩
  refine ⟨I2.kIn, ?_⟩
  rw [hks]
  have bt := hb.to s2 [] ws I2.kIn rfl (rz.length.symm.trans l2)
  have vr := hb.rel (.nil) rz
  refine wpAny_call (codeAny_mono (F.run X.A X.stack s2 H2 _ _ _ Q (E σ) hr I2.env0 bt vr q2) ?_)
  rintro (err | fl) s3 hq
  · exact hx σ pins H2 s2 err s3 I2 hq
  · cases fl with
    | next => exact hq.elim
    | ret u => exact I2.after hq
    | brk => exact hq.elim
    | cont => exact hq.elim
end
/-- the handler's class, and whether it takes what is raised -/
theorem exm_fact {K : PySem.W.Frag} {x y : Str} {b : Bool} (c : (He.Fa.exm x y b).ok K = true) : PySem.W.exmOne K (xc K x) (xc K y) = some b := He.exm_ok c
/-- a method call within a comprehension: the written part by its own name -/
theorem bmK {X : Cx} {K : PySem.W.Frag} {ex : Expr} {T : String} {r : V → List V → Hp → VK → Prop} {to : TE} {t : TA} (e : X.K = K) (h : PE X ex (tBM X.K T r to t)) : PE X ex (tBM K T r to t) := by
  subst e
  exact h
end Wc

/-! texts from any spaces. -/
namespace Wc
open PySem PySem.Spec PyProof.Rows L2
theorem total_lengths {es : List Int} (h : es ≠ []) : es.getLast? = some (total (lengthsOf es)) := by
  have hne : lengthsOf es ≠ [] := by
    intro e
    have := congrArg List.length e
    unfold lengthsOf at this
    rw [lenFrom_len, List.length_nil] at this
    exact h (List.length_eq_zero_iff.mp this)
  have := endsOf_last hne
  rwa [ends_lengths] at this
theorem textOf_spots {c : Int} {ns : List Int} (h1 : 1 ≤ c) (h2 : c ≤ 600) (hs : ∀ n ∈ ns, 0 ≤ n) :
    ((∀ x ∈ lengthsOf (srt ns ++ [c]), 0 < x) → textOf (.int c) (some (.list (ns.map .int))) = some (lengthsOf (srt ns ++ [c]))) ∧ ((¬ ∀ x ∈ lengthsOf (srt ns ++ [c]), 0 < x) → textOf (.int c) (some (.list (ns.map .int))) = none) := by
  have hall : (ns.map PyData.int).all isSpot = true := by
    rw [List.all_map, List.all_eq_true]
    intro n hn
    exact decide_eq_true (hs n hn)
  have htot : total (lengthsOf (srt ns ++ [c])) = c := by
    have := total_lengths (es := srt ns ++ [c]) (by simp)
    simp at this
    exact this.symm
  have hiff := areLengths_ints (lengthsOf (srt ns ++ [c]))
  unfold textOf
  dsimp only
  rw [lens_ints]
  constructor
  · intro h
    have hne : lengthsOf (srt ns ++ [c]) ≠ [] := by
      intro e
      have := congrArg List.length e
      unfold lengthsOf at this
      rw [lenFrom_len] at this
      simp at this
    rw [if_pos ⟨h1, h2, hall, hiff.mpr ⟨hne, fun x hx => h x hx, by rw [htot]; exact h2⟩⟩]
  · intro h
    rw [if_neg]
    rintro ⟨_, _, _, h4⟩
    exact h fun x hx => (hiff.mp h4).2.1 x hx
theorem seqIx_nn {r : Int} {n : Nat} (h0 : 0 ≤ r) (h1 : r < n) : seqIndex? r n = some r.toNat := by
  unfold seqIndex?
  simp only [Bool.and_eq_true, decide_eq_true_eq]
  split <;> split <;> first | rfl | omega
theorem erase_ints : ∀ (xs : List Int) (k : Nat), (iV xs).eraseIdx k = iV (xs.eraseIdx k)
  | [], _ => rfl
  | _ :: _, 0 => rfl
  | x :: xs, k + 1 => by
    show V.int x :: (iV xs).eraseIdx k = V.int x :: iV (xs.eraseIdx k)
    rw [erase_ints xs k]
theorem set_ints : ∀ (xs : List Int) (k : Nat) (z : Int), (iV xs).set k (.int z) = iV (xs.set k z)
  | [], _, _ => rfl
  | _ :: _, 0, _ => rfl
  | x :: xs, k + 1, z => by
    show V.int x :: (iV xs).set k (.int z) = V.int x :: iV (xs.set k z)
    rw [set_ints xs k z]
theorem ixN_zero {n : Nat} (h : 0 < n) : ixN n 0 = some 0 := by
  unfold ixN
  rw [if_pos (by decide), if_pos (by omega)]
  rfl
theorem textOf_txt {cv : V} {o : Option PyData} {t : List Int} (h : textOf cv o = some t) : Txt' t := by
  unfold textOf at h
  split at h
  · split at h
    · next h4 =>
      rw [← Option.some.inj h]
      exact (areLengths_ints _).mp h4.2.2.2
    · cases h
  · cases h
end Wc

/-! words replaced. -/
namespace Wc
open PySem PySem.Spec PyProof.Rows L2
theorem DpAll.app {K : PySem.W.Frag} {H : Hp} : ∀ {xs ys : List V} {ds es : List PyData}, DpAll K H xs ds → DpAll K H ys es → DpAll K H (xs ++ ys) (ds ++ es)
  | _, _, _, _, .nil, h => h
  | _, _, _, _, .cons h1 h2, h => .cons h1 (DpAll.app h2 h)
/-- replace_words, or none where the new text is none -/
def replData (ns : List Int) (f c : Nat) (ds : List PyData) : List PyData := (ns.take f).map .int ++ ds ++ (ns.drop (f + c)).map .int
def replOf (ns : List Int) (f c : Nat) (o : Option PyData) : Option (List Int) := match o with
  | some (.list ds) => if areLengths (some (.list (replData ns f c ds))) = true then some ((replData ns f c ds).map lenOf) else none
  | _ => none
theorem replOf_ints (ns : List Int) (f c : Nat) (ms : List Int) : (Txt' (ns.take f ++ ms ++ ns.drop (f + c)) → replOf ns f c (some (.list (ms.map .int))) = some (ns.take f ++ ms ++ ns.drop (f + c))) ∧ (¬ Txt' (ns.take f ++ ms ++ ns.drop (f + c)) → replOf ns f c (some (.list (ms.map .int))) = none) := by
  have e : replData ns f c (ms.map .int) = (ns.take f ++ ms ++ ns.drop (f + c)).map .int := by
    unfold replData
    rw [List.map_append, List.map_append]
  have h := areLengths_ints (ns.take f ++ ms ++ ns.drop (f + c))
  unfold replOf
  dsimp only
  rw [e, lens_ints]
  constructor
  · intro ht
    rw [if_pos (h.mpr ht)]
  · intro ht
    rw [if_neg fun g => ht (h.mp g)]
theorem lay_app {xs ys : List PyData} (h1 : PyData.canLayAll0 xs = true) (h2 : PyData.canLayAll0 ys = true) : PyData.canLayAll0 (xs ++ ys) = true := by
  induction xs with
  | nil => exact h2
  | cons x xs ih =>
    have h : x.canLay0 = true ∧ PyData.canLayAll0 xs = true := by simpa [PyData.canLayAll0] using h1
    rw [List.cons_append, PyData.canLayAll0, h.1, ih h.2]
    rfl
theorem depth_app (xs ys : List PyData) : PyData.depthAll (xs ++ ys) = max (PyData.depthAll xs) (PyData.depthAll ys) := by
  induction xs with
  | nil => simp [PyData.depthAll]
  | cons x xs ih => rw [List.cons_append, PyData.depthAll, PyData.depthAll, ih, Nat.max_assoc]
theorem repl_shaped {ns : List Int} {f c : Nat} {ds : List PyData} (h : SeqAt.shaped (.list ds) = true) : SeqAt.shaped (.list (replData ns f c ds)) = true := by
  unfold SeqAt.shaped at h ⊢
  rw [Bool.and_eq_true] at h ⊢
  obtain ⟨h1, h2⟩ := h
  have h2' := of_decide_eq_true h2
  rw [PyData.depth] at h2'
  rw [PyData.canLay0] at h1
  constructor
  · rw [PyData.canLay0]
    exact lay_app (lay_app (canLay_ints _) h1) (canLay_ints _)
  · refine decide_eq_true ?_
    rw [PyData.depth]
    unfold replData
    rw [depth_app, depth_app, depth_ints, depth_ints]
    omega
end Wc

namespace Wc
open PySem PySem.Spec PyProof.Rows L2
/-! ### the text -/
def top (i : Nat) : Stmt := PySem.Challenge.pw_wrapclues_k47_words_replaced.main.body.getD i (.Pass ⟨0, 0, 0, 0⟩)
abbrev FnP (K : PySem.W.Frag) (x : Str) (st : Stmt) (dvs : List V) (f : Addr) (fd : FuncData) : Prop := FunD K x x (defArgs st) (defBody st) (defScope st) dvs [] f fd
structure Wd (K : PySem.W.Frag) (mg : Str → Option Value) : Prop where
  n_all : mg "all" = none
  n_bool : mg "bool" = none
  n_int : mg "int" = none
  n_isinstance : mg "isinstance" = none
  n_len : mg "len" = none
  n_list : mg "list" = none
  n_max : mg "max" = none
  n_min : mg "min" = none
  n_range : mg "range" = none
  n_repr : mg "repr" = none
  n_str : mg "str" = none
  n_sum : mg "sum" = none
  n_tuple : mg "tuple" = none
  n_zip : mg "zip" = none
  c_MAX_CHARACTERS : ∃ t, mg "MAX_CHARACTERS" = some (.int 600 t)
  x_InvalidIndex : ExcF K mg "InvalidIndex"
  x_InvalidLengths : ExcF K mg "InvalidLengths"
  x_InvalidNumber : ExcF K mg "InvalidNumber"
  x_InvalidText : ExcF K mg "InvalidText"
  m_InvalidIndex_InvalidLengths : PySem.W.exmOne K (xc K "InvalidIndex") (xc K "InvalidLengths") = some false
  m_InvalidLengths_InvalidLengths : PySem.W.exmOne K (xc K "InvalidLengths") (xc K "InvalidLengths") = some true
  m_InvalidNumber_InvalidLengths : PySem.W.exmOne K (xc K "InvalidNumber") (xc K "InvalidLengths") = some false
  m_InvalidText_InvalidLengths : PySem.W.exmOne K (xc K "InvalidText") (xc K "InvalidLengths") = some false
theorem sc_is_integer : FnScope ["value", "low", "high"] ["value", "low", "high"] (defScope (top 8)) := ⟨rfl, rfl, rfl, by decide +kernel, rfl, by decide +kernel, by decide +kernel⟩
theorem sc_total_of : FnScope ["lengths"] ["lengths"] (defScope (top 9)) := ⟨rfl, rfl, rfl, by decide +kernel, rfl, by decide +kernel, by decide +kernel⟩
theorem sc_are_lengths : FnScope ["value", "length"] ["value"] (defScope (top 10)) := ⟨rfl, rfl, rfl, by decide +kernel, rfl, by decide +kernel, by decide +kernel⟩
theorem sc_is_text : FnScope ["value"] ["value"] (defScope (top 11)) := ⟨rfl, rfl, rfl, by decide +kernel, rfl, by decide +kernel, by decide +kernel⟩
theorem sc_require_text : FnScope ["text"] ["text"] (defScope (top 12)) := ⟨rfl, rfl, rfl, by decide +kernel, rfl, by decide +kernel, by decide +kernel⟩
theorem sc_replace_words : FnScope ["text", "first", "count", "words"] ["text", "first", "count", "words"] (defScope (top 14)) := ⟨rfl, rfl, rfl, by decide +kernel, rfl, by decide +kernel, by decide +kernel⟩
theorem sc__law_deck : FnScope ["script", "pools", "k", "cell"] ["script"] (defScope (top 16)) := ⟨rfl, rfl, rfl, by decide +kernel, rfl, by decide +kernel, by decide +kernel⟩
theorem sc__law_draw : FnScope ["deck", "many", "pool", "found", "mixed"] ["deck", "many"] (defScope (top 17)) := ⟨rfl, rfl, rfl, by decide +kernel, rfl, by decide +kernel, by decide +kernel⟩
theorem sc__law_same : FnScope ["found", "due", "one", "two"] ["found", "due"] (defScope (top 18)) := ⟨rfl, rfl, rfl, by decide +kernel, rfl, by decide +kernel, by decide +kernel⟩
theorem sc__law_span : FnScope ["sizes"] ["sizes"] (defScope (top 19)) := ⟨rfl, rfl, rfl, by decide +kernel, rfl, by decide +kernel, by decide +kernel⟩
theorem sc__law_plan : FnScope ["deck", "most", "longest", "found", "turn", "more"] ["deck", "most", "longest"] (defScope (top 20)) := ⟨rfl, rfl, rfl, by decide +kernel, rfl, by decide +kernel, by decide +kernel⟩
theorem sc__law_told : FnScope ["plan", "at", "many", "more", "is_named"] ["plan", "at", "many", "more", "is_named"] (defScope (top 21)) := ⟨rfl, rfl, rfl, by decide +kernel, rfl, by decide +kernel, by decide +kernel⟩
theorem sc__law_right : FnScope ["plan", "at", "many", "more", "due", "kept", "k", "is_named", "found"] ["plan", "at", "many", "more"] (defScope (top 22)) := ⟨rfl, rfl, rfl, by decide +kernel, rfl, by decide +kernel, by decide +kernel⟩
theorem sc_law : FnScope ["script", "deck", "turn", "plan", "at", "many", "some", "more", "room", "letters", "step"] ["script"] (defScope (top 23)) := ⟨rfl, rfl, rfl, by decide +kernel, rfl, by decide +kernel, by decide +kernel⟩
/-! ### promises -/
def isIntV (v : V) (lo : Int) (hi : V) : Bool := match v with
  | .int i => decide (lo ≤ i) && (match hi with
    | .int h => decide (i ≤ h)
    | _ => true)
  | _ => false
structure sp_is_integer (K : PySem.W.Frag) (vs : List V) (H : Hp) (Q : VK) (E : XK) : Prop where
  h : ∃ v o lo hi, vs = [v, .int lo, hi] ∧ Av K H v o ∧ (hi = .non ∨ ∃ h, hi = .int h) ∧ Q (.bl (isIntV v lo hi)) H

structure sp_total_of (K : PySem.W.Frag) (vs : List V) (H : Hp) (Q : VK) (E : XK) : Prop where
  h : ∃ a ns, vs = [.ref a] ∧ SqL K H a (iV ns) ∧ Q (.int (total ns)) H

theorem shaped_item {d : PyData} {ds : List PyData} (h : SeqAt.shaped (.list ds) = true) (hm : d ∈ ds) : SeqAt.shaped d = true := by
  unfold SeqAt.shaped at h ⊢
  rw [Bool.and_eq_true] at h ⊢
  obtain ⟨h1, h2⟩ := h
  have h2' := of_decide_eq_true h2
  rw [PyData.depth] at h2'
  rw [PyData.canLay0] at h1
  constructor
  · clear h2 h2'
    induction ds with
    | nil => cases hm
    | cons e ds ih =>
      have h1' : e.canLay0 = true ∧ PyData.canLayAll0 ds = true := by simpa [PyData.canLayAll0] using h1
      rcases List.mem_cons.mp hm with rfl | hm
      · exact h1'.1
      · exact ih hm h1'.2
  · refine decide_eq_true ?_
    have : d.depth ≤ PyData.depthAll ds := by
      clear h1 h2 h2'
      induction ds with
      | nil => cases hm
      | cons e ds ih =>
        rw [PyData.depthAll]
        rcases List.mem_cons.mp hm with rfl | hm
        · exact Nat.le_max_left _ _
        · exact Nat.le_trans (ih hm) (Nat.le_max_right _ _)
    omega
structure sp_are_lengths (K : PySem.W.Frag) (vs : List V) (H : Hp) (Q : VK) (E : XK) : Prop where
  h : ∃ v o, vs = [v] ∧ Av K H v o ∧ (∀ ds, o = some (.list ds) → ds.length ≤ sizeLine) ∧ ∀ H', Same H H' → Q (.bl (areLengths o)) H'

def sp_is_text (K : PySem.W.Frag) : Sp := sp_are_lengths K

structure sp_require_text (K : PySem.W.Frag) (vs : List V) (H : Hp) (Q : VK) (E : XK) : Prop where
  h : ∃ v o, vs = [v] ∧ Av K H v o ∧ (∀ ds, o = some (.list ds) → ds.length ≤ sizeLine) ∧ (areLengths o = true → ∀ H', Same H H' → Q .non H') ∧ (areLengths o = false → ∀ H', Same H H' → E (xc K "InvalidText") none H')

structure sp_replace_words (K : PySem.W.Frag) (vs : List V) (H : Hp) (Q : VK) (E : XK) : Prop where
  h : ∃ v o fv fo cv co wv wo, vs = [v, fv, cv, wv] ∧ Av K H v o ∧ (∀ ds, o = some (.list ds) → ds.length ≤ sizeLine) ∧ (∀ H', Same H H' → Av K H' fv fo) ∧ (∀ H', Same H H' → Av K H' cv co) ∧ (∀ H', Same H H' → Av K H' wv wo) ∧
  (∀ ds, wo = some (.list ds) → ds.length ≤ 5000 ∧ ∃ b xs, wv = .ref b ∧ H b = some (.lst xs) ∧ ∀ H', Same H H' → DpAll K H' xs ds) ∧
  (areLengths o = true → ∃ a ns, v = .ref a ∧ SqL K H a (iV ns) ∧ Txt' ns ∧ (isIntV fv 0 (.int ns.length) = false → ∀ H', Same H H' → E (xc K "InvalidIndex") none H') ∧
    ∀ f, fv = .int f → isIntV fv 0 (.int ns.length) = true → (isIntV cv 0 (.int (ns.length - f)) = false → ∀ H', Same H H' → E (xc K "InvalidNumber") none H') ∧
      ∀ c, cv = .int c → isIntV cv 0 (.int (ns.length - f)) = true → (replOf ns f.toNat c.toNat wo = none → ∀ H', Same H H' → E (xc K "InvalidLengths") none H') ∧
        ∀ t, replOf ns f.toNat c.toNat wo = some t → ∀ p H', H p = none → Same H H' → IL H' p t → Q (.ref p) H') ∧
  (areLengths o = false → ∀ H', Same H H' → E (xc K "InvalidText") none H')
theorem replace_words_of {K : PySem.W.Frag} {H : Hp} {Q : VK} {E : XK} {w b : Addr} {ws ms : List Int} {f c : Int} (hS : SqL K H w (iV ws)) (ht : Txt' ws) (hb : IL H b ms) (hm : ms.length ≤ 5000) (f1 : 0 ≤ f) (f2 : f ≤ ws.length) (c1 : 0 ≤ c) (c2 : c ≤ ws.length - f)
    (q : Txt' (ws.take f.toNat ++ ms ++ ws.drop (f.toNat + c.toNat)) → ∀ p H', H p = none → Same H H' → IL H' p (ws.take f.toNat ++ ms ++ ws.drop (f.toNat + c.toNat)) → Q (.ref p) H')
    (qe : ¬ Txt' (ws.take f.toNat ++ ms ++ ws.drop (f.toNat + c.toNat)) → ∀ H', Same H H' → E (xc K "InvalidLengths") none H') : sp_replace_words K [.ref w, .int f, .int c, .ref b] H Q E := by
  have hl := ht.len
  have hf : isIntV (.int f) 0 (.int ws.length) = true := by
    simp only [isIntV, Bool.and_eq_true, decide_eq_true_eq]
    omega
  have hc : isIntV (.int c) 0 (.int (ws.length - f)) = true := by
    simp only [isIntV, Bool.and_eq_true, decide_eq_true_eq]
    omega
  obtain ⟨r1, r2⟩ := replOf_ints ws f.toNat c.toNat ms
  refine ⟨.ref w, _, .int f, some (.int f), .int c, some (.int c), .ref b, some (.list (ms.map .int)), rfl, av_ints hS, lenLine (by omega), (fun H' _ => .d (.int _) rfl), (fun H' _ => .d (.int _) rfl), (fun H' s => av_ints (hb.same s).seq), fun ds e => ?_, fun _ => ⟨w, ws, rfl, hS, ht, fun h => ?_, fun f' ef _ => ?_⟩, fun h => ?_⟩
  · injection e with e
    injection e with e
    subst e
    exact ⟨by rw [List.length_map]; exact hm, b, _, rfl, hb, fun H' _ => dpAll_ints ms⟩
  · rw [hf] at h
    cases h
  · injection ef with ef
    subst ef
    refine ⟨fun h => ?_, fun c' ec _ => ?_⟩
    · rw [hc] at h
      cases h
    · injection ec with ec
      subst ec
      refine ⟨fun h H' s => qe (fun g => ?_) H' s, fun t h p H' n s e => ?_⟩
      · rw [r1 g] at h
        cases h
      · by_cases g : Txt' (ws.take f.toNat ++ ms ++ ws.drop (f.toNat + c.toNat))
        · rw [r1 g] at h
          rw [← Option.some.inj h] at e
          exact q g p H' n s e
        · rw [r2 g] at h
          cases h
  · rw [ht.yes] at h
    cases h

structure sp__law_deck (K : PySem.W.Frag) (vs : List V) (H : Hp) (Q : VK) (E : XK) : Prop where
  h : ∃ a ns, vs = [.ref a] ∧ SqL K H a (iV ns) ∧ ns.length ≤ 63 ∧ ∀ b qs H', (∀ x ∈ b :: qs, H x = none) → Same H H' → Deck H' b qs 0 → Q (.ref b) H'

structure sp__law_draw (K : PySem.W.Frag) (vs : List V) (H : Hp) (Q : VK) (E : XK) : Prop where
  h : ∃ a qs n many, vs = [.ref a, .int many] ∧ Deck H a qs n ∧ n ≤ 2 ^ 50 ∧ 1 ≤ many ∧ many < 2 ^ 29 ∧ ∀ r H', 0 ≤ r → r < many → Deck H' a qs (n + 1) → SameS (a :: qs) H H' → Q (.int r) H'

def sp__law_same (n : Nat) (K : PySem.W.Frag) : Sp := fun vs H Q _ => match n with
  | 0 => False
  | n + 1 => ∃ x y d, vs = [x, y] ∧ Dp K H x d ∧ Dp K H y d ∧ d.canLay0 = true ∧ d.depth ≤ n ∧ (∀ ds, d = .list ds → True) ∧ ∀ H', Same H H' → Q (.bl true) H'

structure sp__law_span (K : PySem.W.Frag) (vs : List V) (H : Hp) (Q : VK) (E : XK) : Prop where
  h : ∃ a ns, vs = [.ref a] ∧ SqL K H a (iV ns) ∧ Q (.int (total ns)) H

structure sp__law_plan (K : PySem.W.Frag) (vs : List V) (H : Hp) (Q : VK) (E : XK) : Prop where
  h : ∃ a qs n most longest, vs = [.ref a, .int most, .int longest] ∧ Deck H a qs n ∧ n ≤ 2 ^ 40 ∧ 1 ≤ most ∧ most ≤ 1000 ∧ 1 ≤ longest ∧ longest ≤ 600 ∧
  ∀ p ws H', H p = none → SameS (a :: qs) H H' → Deck H' a qs (n + 5000) → IL H' p ws → Txt' ws → Q (.ref p) H'

structure sp__law_told (K : PySem.W.Frag) (vs : List V) (H : Hp) (Q : VK) (E : XK) : Prop where
  h : ∃ w b ws ms f c k, vs = [.ref w, .int f, .int c, .ref b, .bl k] ∧ IL H w ws ∧ Txt' ws ∧ IL H b ms ∧ ms.length ≤ 5000 ∧ 0 ≤ f ∧ f ≤ ws.length ∧ 0 ≤ c ∧ c ≤ ws.length - f ∧
  (Txt' (ws.take f.toNat ++ ms ++ ws.drop (f.toNat + c.toNat)) → ∀ p H', H p = none → Same H H' → IL H' p (ws.take f.toNat ++ ms ++ ws.drop (f.toNat + c.toNat)) → Q (.ref p) H') ∧
  (¬ Txt' (ws.take f.toNat ++ ms ++ ws.drop (f.toNat + c.toNat)) → ∀ H', Same H H' → Q (.str "lengths") H')

/-- the new text up to a word of the old one -/
def rightAcc (ws ms : List Int) (f c i : Nat) : List Int := if i ≤ f then ws.take i else ws.take f ++ ms ++ (ws.take i).drop (f + c)
theorem take_drop_succ (ws : List Int) (i d : Nat) : (ws.take (i + 1)).drop d = (ws.take i).drop d ++ (if d ≤ i then ws[i]?.toList else []) := by
  rw [List.take_add_one, List.drop_append]
  congr 1
  split
  · next h =>
    rw [List.length_take]
    by_cases hi : i ≤ ws.length
    · rw [Nat.min_eq_left hi, Nat.sub_eq_zero_of_le h, List.drop_zero]
    · rw [List.getElem?_eq_none (by omega)]
      simp
  · next h =>
    refine List.drop_eq_nil_of_le ?_
    rw [List.length_take]
    cases e : ws[i]? with
    | none => simp
    | some z =>
      have := (List.getElem?_eq_some_iff.mp e).1
      simp
      omega
theorem rightAcc_len (ws ms : List Int) (f c i : Nat) : (rightAcc ws ms f c i).length ≤ 2 * ws.length + ms.length := by
  unfold rightAcc
  split
  · rw [List.length_take]
    omega
  · rw [List.length_append, List.length_append, List.length_take, List.length_drop, List.length_take]
    omega
structure sp__law_right (K : PySem.W.Frag) (vs : List V) (H : Hp) (Q : VK) (E : XK) : Prop where
  h : ∃ w b ws ms f c, vs = [.ref w, .int f, .int c, .ref b] ∧ IL H w ws ∧ Txt' ws ∧ IL H b ms ∧ ms.length ≤ 5000 ∧ (∀ m ∈ ms, 1 ≤ m ∧ m ≤ 2000) ∧ 0 ≤ f ∧ f ≤ ws.length ∧ 0 ≤ c ∧ c ≤ ws.length - f ∧ ∀ H', Same H H' → Q (.bl true) H'

structure sp_law (K : PySem.W.Frag) (vs : List V) (H : Hp) (Q : VK) (E : XK) : Prop where
  h : ∃ a ns, vs = [.ref a] ∧ SqL K H a (iV ns) ∧ ns.length ≤ 63 ∧ (∀ z ∈ ns, Builtin.Int.intBits z ≤ 1048576) ∧ ∀ H', Q (.bl true) H'

section
variable {P : Program} {w : World} {K : PySem.W.Frag} {mg : Str → Option Value} {base : Heap}
theorem ok_is_integer {f : Addr} {fd : FuncData} (F : FnP K "is_integer" (top 8) [.non] f fd) (W : Wd K mg)  : FnOk P w K mg base CX0 1 f fd ["value", "low", "high"] (sp_is_integer K) := by
  refine FunD.ok F sc_is_integer (fun vs H Q E h => ?len) (fun cdv A outer s H vs Q E hr h => ?_)
  case len =>
    obtain ⟨v, o, lo, hi, rfl, _⟩ := h
    rfl
  refine ⟨_, PSs.nox (pss_cons (ps_if (PW.pt (pw_or (pt_not (pt_val (pe_callB call_isi (by rfl) W.n_isinstance (by decide +kernel) (pa_cons (pv 0) (pa_cons (pe_ty (n := "int") W.n_int (by decide +kernel)) pa_nil))))) (pw_or1 (pt_val (pe_callB call_isi (by rfl) W.n_isinstance (by decide +kernel) (pa_cons (pv 0) (pa_cons (pe_ty (n := "bool") W.n_bool (by decide +kernel)) pa_nil))))))) (pss_one (ps_ret pe_bl)) pss_nil)
  (pss_one (ps_ret (pe_and (pe_cmpR op_le (pv 1) (pv 0) (nomark _)) (pe_one (pe_or (pe_cmpR op_isN (pv 2) pe_non (nomark _)) (pe_one (pe_cmpR op_le (pv 0) (pv 2) (nomark _))))))))), ?_⟩
  obtain ⟨v, o, lo, hi, rfl, hv, hh, q⟩ := h
  refine ⟨_, rfl, _, _, _, _, _, rfl, .ty _, hv.ty, isi_int o, _, rfl, ?_⟩
  rw [isI_int]
  cases hv with
  | e ha => exact q
  | d hd hs =>
    cases hd with
    | non => exact q
    | str x => exact q
    | lst _ _ => exact q
    | tup _ _ => exact q
    | bl b =>
      refine ⟨_, rfl, _, _, _, _, _, rfl, .ty _, .base (.bl b), isi_bool (some (.bool b)), _, rfl, ?_⟩
      rw [isI_bool]
      exact q
    | int i =>
      refine ⟨_, rfl, _, _, _, _, _, rfl, .ty _, .base (.int i), isi_bool (some (.int i)), _, rfl, ?_⟩
      rw [isI_bool]
      refine ⟨_, rfl, _, rfl, _, _, rfl, rfl, _, rfl, ?_⟩
      by_cases c : lo ≤ i
      · rw [decide_eq_true c]
        refine iteT ⟨_, rfl, rfl, _, rfl, ?_⟩
        rcases hh with rfl | ⟨h, rfl⟩
        · refine iteT ?_
          simpa [isIntV, c] using q
        · refine iteF ⟨_, rfl, _, rfl, _, _, rfl, rfl, ?_⟩
          simpa [isIntV, c] using q
      · rw [decide_eq_false c]
        refine iteF ?_
        simpa [isIntV, c] using q
theorem ok_total_of {f : Addr} {fd : FuncData} (F : FnP K "total_of" (top 9) [] f fd) (W : Wd K mg)  : FnOk P w K mg base CX0 1 f fd ["lengths"] (sp_total_of K) := by
  refine FunD.ok F sc_total_of (fun vs H Q E h => ?len) (fun cdv A outer s H vs Q E hr h => ?_)
  case len =>
    obtain ⟨a, ns, rfl, _⟩ := h
    rfl
  refine ⟨_, PSs.nox (pss_one (ps_ret (pe_op op_sub (pe_op op_add (pe_callB (cr_sum rfl) (by rfl) W.n_sum (by decide +kernel) (pa_cons (pv 0) pa_nil)) (pe_callB call_len_seq (by rfl) W.n_len (by decide +kernel) (pa_cons (pv 0) pa_nil))) pe_int))), ?_⟩
  obtain ⟨a, ns, rfl, hS, q⟩ := h
  refine ⟨_, rfl, a, ns, rfl, hS, _, rfl, a, _, rfl, .inl hS, _, _, rfl, rfl, _, _, rfl, rfl, ?_⟩
  rw [List.length_map]
  exact q
theorem ok_are_lengths {f : Addr} {fd : FuncData} (F : FnP K "are_lengths" (top 10) [] f fd) (W : Wd K mg) (c_total_of : Cal P w K mg base CX0 1 "total_of" ["lengths"] [] (sp_total_of K)) (c_is_integer_2 : Cal P w K mg base CX0 1 "is_integer" ["value", "low", "high"] [.non] (sp_is_integer K)) : FnOk P w K mg base CX0 2 f fd ["value"] (sp_are_lengths K) := by
  refine FunD.ok F sc_are_lengths (fun vs H Q E h => ?len) (fun cdv A outer s H vs Q E hr h => ?_)
  case len =>
    obtain ⟨v, o, rfl, _⟩ := h
    rfl
  refine ⟨_, PSs.nox (pss_cons (ps_if (PW.pt (pw_or (pt_not (pt_val (pe_callB call_isi (by rfl) W.n_isinstance (by decide +kernel) (pa_cons (pv 0) (pa_cons (pe_ty (n := "list") W.n_list (by decide +kernel)) pa_nil))))) (pw_or (pt_cmpR (op_eqD hr.units) (pv 0) (pe_lst pa_nil) (nomark _)) (pw_or1 (pt_not (pt_val (pe_callB (cr_all rfl) (by rfl) W.n_all (by decide +kernel) (pa_cons (pe_lc (own := [("length", 1)]) (g := (gName 1)) (by rfl) sc_are_lengths.nd (pi_list (pv 0)) (blkOk_by (own := [("length", 1)]) (N := ["value", "length"]) (sc := defScope (top 10)) (by decide +kernel)) (fun _ _ _ _ _ => (pg_name (i := 1) sc_are_lengths.nd rfl (Or.inl rfl))) (fun _ _ _ _ _ => pts_nil) (fun _ _ _ _ _ => (pe_cal c_is_integer_2 (hr.mono (by decide)) pass0 (pa_cons (pv 1) (pa_cons pe_int pa_nil))))) pa_nil)))))))) (pss_one (ps_ret pe_bl)) pss_nil)
  (pss_one (ps_ret (pe_cmpR op_le (pe_cal c_total_of (hr.mono (by decide)) pass0 (pa_cons (pv 0) pa_nil)) (pe_gint W.c_MAX_CHARACTERS) (nomark _))))), ?_⟩
  obtain ⟨v, o, rfl, hv, hz, q⟩ := h
  refine ⟨_, rfl, _, _, _, _, _, rfl, .ty _, hv.ty, isi_list o, _, rfl, ?_⟩
  rw [isI_list]
  cases hv with
  | e ha => exact q _ (Same.refl _)
  | d hd hs =>
    cases hd with
    | non => exact q _ (Same.refl _)
    | str x => exact q _ (Same.refl _)
    | bl _ => exact q _ (Same.refl _)
    | int _ => exact q _ (Same.refl _)
    | tup _ _ => exact q _ (Same.refl _)
    | @lst a xs ds hS ha =>
      have hl := dpAll_len ha
      have hz' : ds.length ≤ sizeLine := hz ds rfl
      refine ⟨_, rfl, (by decide), fun p hp => ?_⟩
      have s1 : Same H (upd H p (.lst [])) := same_new hp
      refine ⟨.list ds, .list [], .lst (s1.seq hS) (DpAll.same s1 _ _ ha), .lst (.inl (.inl upd_same)) .nil, hs, by decide, _, rfl, ?_⟩
      cases ds with
      | nil => exact q _ s1
      | cons d ds =>
        have e0 : PyData.eqv (.list (d :: ds)) (.list []) = false := by simp [PyData.eqv, PyData.eqvAll]
        rw [e0]
        refine iteF ⟨.ref a, rfl, a, rfl, ⟨xs, s1.seq hS⟩, fun D nD => ?_⟩
        refine lc_mapL (xs := xs) (((d :: ds).map fun d => V.bl (isLen d))) (by rw [List.length_map, hl]) (by rw [hl]; exact hz') (s1.seq hS) nD (fun i x y H' hx hy s2 Q' k => ?_) (fun H' s2 eD => ?_)
        · obtain ⟨d', e', hd'⟩ := dpAll_get ha hx
          refine ⟨x, rfl, x, some d', 1, .non, rfl, .d (Dp.same (s1.trans s2) _ _ hd') ?_, .inl rfl, ?_⟩
          · exact shaped_item hs (List.mem_of_getElem? e')
          · rw [List.getElem?_map, e'] at hy
            have hy' : V.bl (isLen d') = y := Option.some.inj hy
            have e2 : isIntV x 1 .non = isLen d' := by cases hd' <;> simp [isIntV, isLen]
            rw [e2, hy']
            exact k H' (Same.refl _)
        · refine ⟨D, (d :: ds).map isLen, rfl, .inl (.inl (by rw [eD, List.map_map]; rfl)), _, rfl, ?_⟩
          have s3 : Same H H' := s1.trans s2
          cases c : (((d :: ds).map isLen).all id) with
          | false =>
            refine iteT ?_
            have e3 : areLengths (some (.list (d :: ds))) = false := by
              have : (d :: ds).all isLen = false := by simpa [List.all_map] using c
              simp [areLengths, this]
            rw [← e3]
            exact q H' s3
          | true =>
            refine iteF ?_
            have ca : (d :: ds).all isLen = true := by simpa [List.all_map] using c
            have hi : xs = iV ((d :: ds).map lenOf) := dpAll_lens ha ca
            refine ⟨.ref a, rfl, a, (d :: ds).map lenOf, rfl, by rw [← hi]; exact s3.seq hS, _, _, rfl, rfl, ?_⟩
            have e3 : areLengths (some (.list (d :: ds))) = decide (total ((d :: ds).map lenOf) ≤ 600) := by simp [areLengths, ca]
            dsimp only
            rw [← e3]
            exact q H' s3
theorem ok_is_text {f : Addr} {fd : FuncData} (F : FnP K "is_text" (top 11) [] f fd) (W : Wd K mg) (c_are_lengths : Cal P w K mg base CX0 2 "are_lengths" ["value"] [] (sp_are_lengths K)) : FnOk P w K mg base CX0 3 f fd ["value"] (sp_is_text K) := by
  refine FunD.ok F sc_is_text (fun vs H Q E h => ?len) (fun cdv A outer s H vs Q E hr h => ?_)
  case len =>
    obtain ⟨v, o, rfl, _⟩ := h
    rfl
  refine ⟨_, PSs.nox (pss_one (ps_ret (pe_cal c_are_lengths (hr.mono (by decide)) pass0 (pa_cons (pv 0) pa_nil)))), ?_⟩
  obtain ⟨v, o, rfl, hv, hz, q⟩ := h
  exact ⟨_, rfl, v, o, rfl, hv, hz, q⟩
theorem ok_require_text {f : Addr} {fd : FuncData} (F : FnP K "require_text" (top 12) [] f fd) (W : Wd K mg) (c_is_text : Cal P w K mg base CX0 3 "is_text" ["value"] [] (sp_is_text K)) : FnOk P w K mg base (L2.CX P w) 4 f fd ["text"] (sp_require_text K) := by
  refine FunD.ok F sc_require_text (fun vs H Q E h => ?len) (fun cdv A outer s H vs Q E hr h => ?_)
  case len =>
    obtain ⟨v, o, rfl, _⟩ := h
    rfl
  refine ⟨_, (pss_one (ps_if (pt_not (pt_val (pe_cal c_is_text (hr.mono (by decide)) pass0 (pa_cons (pv 0) pa_nil)))) (pss_one (ps_raiseT (takes_of rfl rfl rfl rfl) W.x_InvalidText)) pss_nil)), ?_⟩
  obtain ⟨v, o, rfl, hv, hz, q, qe⟩ := h
  refine ⟨_, rfl, v, o, rfl, hv, hz, fun H' s => ⟨_, rfl, ?_⟩⟩
  cases c : areLengths o with
  | true => exact q c H' s
  | false => exact qe c H' s
theorem ok_replace_words {f : Addr} {fd : FuncData} (F : FnP K "replace_words" (top 14) [] f fd) (W : Wd K mg) (c_is_text : Cal P w K mg base CX0 3 "is_text" ["value"] [] (sp_is_text K)) (c_is_integer : Cal P w K mg base CX0 1 "is_integer" ["value", "low", "high"] [] (sp_is_integer K)) (c_require_text : Cal P w K mg base (L2.CX P w) 4 "require_text" ["text"] [] (sp_require_text K)) : FnOk P w K mg base (L2.CX P w) 5 f fd ["text", "first", "count", "words"] (sp_replace_words K) := by
  refine FunD.ok F sc_replace_words (fun vs H Q E h => ?len) (fun cdv A outer s H vs Q E hr h => ?_)
  case len =>
    obtain ⟨v, o, fv, fo, cv, co, wv, wo, rfl, _⟩ := h
    rfl
  refine ⟨_, (pss_cons (ps_expr (pe_cal c_require_text (hr.mono (by decide)) (passes_call (takes_of rfl rfl rfl rfl) (fun _ _ _ _ h => h)) (pa_cons (pv 0) pa_nil)))
  (pss_cons (ps_if (pt_not (pt_val (pe_cal c_is_integer (hr.mono (by decide)) pass0 (pa_cons (pv 1) (pa_cons pe_int (pa_cons (pe_callB call_len_seq (by rfl) W.n_len (by decide +kernel) (pa_cons (pv 0) pa_nil)) pa_nil)))))) (pss_one (ps_raiseT (takes_of rfl rfl rfl rfl) W.x_InvalidIndex)) pss_nil)
  (pss_cons (ps_if (pt_not (pt_val (pe_cal c_is_integer (hr.mono (by decide)) pass0 (pa_cons (pv 2) (pa_cons pe_int (pa_cons (pe_op op_sub (pe_callB call_len_seq (by rfl) W.n_len (by decide +kernel) (pa_cons (pv 0) pa_nil)) (pv 1)) pa_nil)))))) (pss_one (ps_raiseT (takes_of rfl rfl rfl rfl) W.x_InvalidNumber)) pss_nil)
  (pss_cons (ps_if (PW.pt (pw_or (pt_not (pt_val (pe_callB call_isi (by rfl) W.n_isinstance (by decide +kernel) (pa_cons (pv 3) (pa_cons (pe_ty (n := "list") W.n_list (by decide +kernel)) pa_nil))))) (pw_or1 (pt_not (pt_val (pe_cal c_is_text (hr.mono (by decide)) pass0 (pa_cons (pe_op op_cat (pe_op op_cat (pe_slice sl_list (pv 0) po_none (po_some (pv 1))) (pv 3)) (pe_slice sl_list (pv 0) (po_some (pe_op op_add (pv 1) (pv 2))) po_none)) pa_nil))))))) (pss_one (ps_raiseT (takes_of rfl rfl rfl rfl) W.x_InvalidLengths)) pss_nil)
  (pss_one (ps_ret (pe_op op_cat (pe_op op_cat (pe_slice sl_list (pv 0) po_none (po_some (pv 1))) (pv 3)) (pe_slice sl_list (pv 0) (po_some (pe_op op_add (pv 1) (pv 2))) po_none)))))))), ?_⟩
  obtain ⟨v, o, fv, fo, cv, co, wv, wo, rfl, hv, hz, hf, hc, hw, hwl, q, qe⟩ := h
  have hsz : sizeLine = 16777216 := by decide
  refine ⟨_, rfl, v, o, rfl, hv, hz, fun c0 H1 s1 => ?_, qe⟩
  obtain ⟨a, ns, rfl, hS, ht, q1, q2⟩ := q c0
  have hl := ht.len
  refine ⟨_, rfl, _, rfl, a, _, rfl, .inl (s1.seq hS), fv, fo, 0, .int ns.length, by rw [List.length_map]; rfl, hf _ s1, .inr ⟨_, rfl⟩, _, rfl, ?_⟩
  cases c1 : isIntV fv 0 (.int ns.length) with
  | false => exact iteT (q1 c1 H1 s1)
  | true =>
    obtain ⟨f, rfl, hf1, hf2⟩ : ∃ f, fv = .int f ∧ 0 ≤ f ∧ f ≤ ns.length := by
      cases fv <;> simp [isIntV] at c1
      exact ⟨_, rfl, c1.1, c1.2⟩
    obtain ⟨q3, q4⟩ := q2 f rfl c1
    refine iteF ?_
    refine ⟨_, rfl, _, rfl, a, _, rfl, .inl (s1.seq hS), _, rfl, _, _, rfl, rfl, cv, co, 0, .int (ns.length - f), by first | (rw [List.length_map]; rfl) | (dsimp only; rw [List.length_map]; rfl), hc _ s1, .inr ⟨_, rfl⟩, _, rfl, ?_⟩
    cases c2 : isIntV cv 0 (.int (ns.length - f)) with
    | false => exact iteT (q3 c2 H1 s1)
    | true =>
      obtain ⟨c, rfl, hc1, hc2⟩ : ∃ c, cv = .int c ∧ 0 ≤ c ∧ c ≤ ns.length - f := by
        cases cv <;> simp [isIntV] at c2
        exact ⟨_, rfl, c2.1, c2.2⟩
      obtain ⟨q5, q6⟩ := q4 c rfl c2
      refine iteF ?_
      have nol : (∀ ds, wo ≠ some (.list ds)) → replOf ns f.toNat c.toNat wo = none := by
        intro h
        unfold replOf
        split
        · exact (h _ rfl).elim
        · rfl
      have hw1 := hw _ s1
      refine ⟨_, rfl, _, _, _, _, _, rfl, .ty _, hw1.ty, isi_list wo, _, rfl, ?_⟩
      rw [isI_list]
      have isl : (∃ ds, wo = some (.list ds)) ∨ ∀ ds, wo ≠ some (.list ds) := by
        cases wo with
        | none => exact .inr fun ds e => by cases e
        | some d =>
          cases d with
          | list ds => exact .inl ⟨ds, rfl⟩
          | _ => exact .inr fun ds e => by cases e
      rcases isl with ⟨ds, rfl⟩ | hn
      · obtain ⟨hdl, b, xs, rfl, hb, hda⟩ := hwl ds rfl
        have hxl := dpAll_len (hda H (Same.refl _))
        have hsh : SeqAt.shaped (.list ds) = true := by
          cases hw1 with
          | d _ h => exact h
        refine iteF ?_
        refine ⟨_, rfl, _, rfl, _, rfl, a, _, rfl, (s1).seq hS, fun c1_ nc1 => ?_⟩
        have ecut : cutV (iV ns) none (some f) = iV (ns.take f.toNat) := by rw [cutV_map, cutL_to _ _ hf1]
        rw [ecut]
        have ec1 : (upd H1 c1_ (.lst (iV (ns.take f.toNat)))) c1_ = some (.lst (iV (ns.take f.toNat))) := upd_same
        have sc1 : Same H1 (upd H1 c1_ (.lst (iV (ns.take f.toNat)))) := same_new nc1
        generalize (upd H1 c1_ (.lst (iV (ns.take f.toNat)))) = G1 at ec1 sc1
        refine ⟨_, rfl, c1_, b, _, xs, rfl, rfl, ec1, sc1 _ _ ((s1) _ _ hb), by rw [List.length_map, List.length_take]; omega, fun p1 np1 => ?_⟩
        have ep1 : (upd G1 p1 (.lst (iV (ns.take f.toNat) ++ xs))) p1 = some (.lst (iV (ns.take f.toNat) ++ xs)) := upd_same
        have sp1 : Same H1 (upd G1 p1 (.lst (iV (ns.take f.toNat) ++ xs))) := sc1.trans (same_new np1)
        generalize (upd G1 p1 (.lst (iV (ns.take f.toNat) ++ xs))) = G2 at ep1 sp1
        refine ⟨_, rfl, _, rfl, _, rfl, _, _, rfl, rfl, _, rfl, a, _, rfl, ((s1).trans sp1).seq hS, fun c2_ nc2 => ?_⟩
        dsimp only
        have ecut2 : cutV (iV ns) (some (f + c)) none = iV (ns.drop (f.toNat + c.toNat)) := by
          rw [cutV_map, cutL_from _ _ (by omega)]
          congr 2
          omega
        rw [ecut2]
        refine ⟨p1, c2_, _, _, rfl, rfl, at_new ep1 nc2, upd_same, by simp; omega, fun p2 np2 => ?_⟩
        have np := fresh_of sp1 (fresh_of (same_new nc2) np2)
        have s3 : Same H1 (upd (upd G2 c2_ (.lst (iV (ns.drop (f.toNat + c.toNat))))) p2 (.lst (iV (ns.take f.toNat) ++ xs ++ iV (ns.drop (f.toNat + c.toNat))))) := (sp1.trans (same_new nc2)).trans (same_new np2)
        have e3 : (upd (upd G2 c2_ (.lst (iV (ns.drop (f.toNat + c.toNat))))) p2 (.lst (iV (ns.take f.toNat) ++ xs ++ iV (ns.drop (f.toNat + c.toNat))))) p2 = some (.lst (iV (ns.take f.toNat) ++ xs ++ iV (ns.drop (f.toNat + c.toNat)))) := upd_same
        generalize (upd (upd G2 c2_ (.lst (iV (ns.drop (f.toNat + c.toNat))))) p2 (.lst (iV (ns.take f.toNat) ++ xs ++ iV (ns.drop (f.toNat + c.toNat))))) = H3 at s3 e3
        clear np2 nc2 ecut2 sp1 ep1 np1 sc1 ec1 nc1 ecut
        have s13 := s1.trans s3
        have hall : DpAll K H3 (iV (ns.take f.toNat) ++ xs ++ iV (ns.drop (f.toNat + c.toNat))) (replData ns f.toNat c.toNat ds) := DpAll.app (DpAll.app (dpAll_ints _) (hda H3 s13)) (dpAll_ints _)
        refine ⟨.ref p2, some (.list (replData ns f.toNat c.toNat ds)), rfl, .d (.lst (.inl (.inl e3)) hall) (repl_shaped hsh), fun ds' e => ?_, fun H4 s4 => ⟨_, rfl, ?_⟩⟩
        · injection e with e
          injection e with e
          rw [← e]
          unfold replData
          simp
          omega
        cases c5 : areLengths (some (.list (replData ns f.toNat c.toNat ds))) with
        | false =>
          refine iteT (q5 ?_ H4 (s13.trans s4))
          unfold replOf
          dsimp only
          rw [c5]
          rfl
        | true =>
          refine iteF ?_
          have hto : replOf ns f.toNat c.toNat (some (.list ds)) = some ((replData ns f.toNat c.toNat ds).map lenOf) := by
            unfold replOf
            dsimp only
            rw [if_pos c5]
          have ci : (replData ns f.toNat c.toNat ds).all isLen = true := by
            simp only [areLengths, Bool.and_eq_true] at c5
            exact c5.1.2
          have hi := dpAll_lens hall ci
          have s14 := s13.trans s4
          refine nx_go ?_
          dsimp only
          refine ⟨_, rfl, _, rfl, _, rfl, a, _, rfl, (s14).seq hS, fun c1_ nc1 => ?_⟩
          have ecut : cutV (iV ns) none (some f) = iV (ns.take f.toNat) := by rw [cutV_map, cutL_to _ _ hf1]
          rw [ecut]
          have ec1 : (upd H4 c1_ (.lst (iV (ns.take f.toNat)))) c1_ = some (.lst (iV (ns.take f.toNat))) := upd_same
          have sc1 : Same H4 (upd H4 c1_ (.lst (iV (ns.take f.toNat)))) := same_new nc1
          generalize (upd H4 c1_ (.lst (iV (ns.take f.toNat)))) = G1 at ec1 sc1
          refine ⟨_, rfl, c1_, b, _, xs, rfl, rfl, ec1, sc1 _ _ ((s14) _ _ hb), by rw [List.length_map, List.length_take]; omega, fun p1 np1 => ?_⟩
          have ep1 : (upd G1 p1 (.lst (iV (ns.take f.toNat) ++ xs))) p1 = some (.lst (iV (ns.take f.toNat) ++ xs)) := upd_same
          have sp1 : Same H4 (upd G1 p1 (.lst (iV (ns.take f.toNat) ++ xs))) := sc1.trans (same_new np1)
          generalize (upd G1 p1 (.lst (iV (ns.take f.toNat) ++ xs))) = G2 at ep1 sp1
          refine ⟨_, rfl, _, rfl, _, rfl, _, _, rfl, rfl, _, rfl, a, _, rfl, ((s14).trans sp1).seq hS, fun c2_ nc2 => ?_⟩
          dsimp only
          have ecut2 : cutV (iV ns) (some (f + c)) none = iV (ns.drop (f.toNat + c.toNat)) := by
            rw [cutV_map, cutL_from _ _ (by omega)]
            congr 2
            omega
          rw [ecut2]
          refine ⟨p1, c2_, _, _, rfl, rfl, at_new ep1 nc2, upd_same, by simp; omega, fun p5 np5 => ?_⟩
          refine q6 _ hto p5 _ (fresh_of s14 (fresh_of sp1 (fresh_of (same_new nc2) np5))) (s14.trans ((sp1.trans (same_new nc2)).trans (same_new np5))) ?_
          show upd _ _ _ _ = _
          rw [upd_same, hi]
      · have hq := q5 (nol hn) H1 s1
        clear q q1 q2 q3 q4 q5 q6 nol hwl hw
        cases wo with
        | none => exact iteT hq
        | some d => cases d <;> first | exact iteT hq | exact (hn _ rfl).elim
theorem ok__law_deck {f : Addr} {fd : FuncData} (F : FnP K "_law_deck" (top 16) [] f fd) (W : Wd K mg)  : FnOk P w K mg base CX0 1 f fd ["script"] (sp__law_deck K) := by
  refine FunD.ok F sc__law_deck (fun vs H Q E h => ?len) (fun cdv A outer s H vs Q E hr h => ?_)
  case len =>
    obtain ⟨a, ns, rfl, _⟩ := h
    rfl
  refine ⟨_, PSs.nox (pss_cons (ps_set (i := 1) sc__law_deck.nd rfl (.inl rfl) (pe_lst pa_nil))
  (pss_cons (ps_for PassesOwn.never rfl (pi_range1 (by rfl) W.n_range (pa_cons (pe_callB (call_max2 rfl) (by rfl) W.n_max (by decide +kernel) (pa_cons pe_int (pa_cons (pe_callB (call_min2 rfl) (by rfl) W.n_min (by decide +kernel) (pa_cons pe_int (pa_cons (pe_callB call_len_seq (by rfl) W.n_len (by decide +kernel) (pa_cons (pv 0) pa_nil)) pa_nil))) pa_nil))) pa_nil)) (pg_name (i := 2) sc__law_deck.nd rfl (Or.inl rfl))
  (pss_cons (ps_set (i := 3) sc__law_deck.nd rfl (.inl rfl) pe_int)
  (pss_cons (ps_if (pt_cmpR op_lt (pv 2) (pe_callB call_len_seq (by rfl) W.n_len (by decide +kernel) (pa_cons (pv 0) pa_nil)) (nomark _)) (pss_one (ps_set (i := 3) sc__law_deck.nd rfl (.inl rfl) (pe_ix ix_list (pv 0) (pv 2) (fun _ _ => rfl)))) pss_nil)
  (pss_one (ps_expr (pe_bm PySem.F.plainAttrs_list PySem.F.slot_list_append PySem.F.type_list_append mt_append (pv 1) (pa_cons (pe_lst (pa_cons (pv 3) (pa_cons (pe_callTy call_int1 (by rfl) W.n_int (by decide +kernel) (pa_cons (pe_cmpR op_ge (pv 3) (pe_op op_powW pe_int pe_int) (nomark _)) pa_nil)) (pa_cons (pe_op op_mulW pe_int (pv 2)) pa_nil)))) pa_nil)))))))
  (pss_one (ps_ret (pe_lst (pa_cons (pv 1) (pa_cons pe_int pa_nil))))))), ?_⟩
  obtain ⟨a, ns, rfl, hS, hl, q⟩ := h
  have hz : sizeLine = 16777216 := by decide
  refine sq_set ⟨Nat.zero_le _, fun p np => ?_⟩
  refine ⟨_, rfl, a, _, rfl, .inl ((same_new np).seq hS), _, _, rfl, _, _, rfl, ?_⟩
  rw [List.length_map]
  generalize hN : (if (if (ns.length : Int) < 63 then (ns.length : Int) else 63) > 1 then (if (ns.length : Int) < 63 then (ns.length : Int) else 63) else 1) = N
  have hN6 : 1 ≤ N ∧ N ≤ 63 := by
    rw [← hN]
    constructor
    · split <;> omega
    · split
      · split <;> omega
      · omega
  refine ⟨N, rfl, by omega, by omega, ?_⟩
  refine for_range (lo := 0) (n := N.toNat) (fun i σ H' => ∃ j1 j2 qs, σ = [some (.ref a), some (.ref p), j1, j2] ∧ Same H H' ∧ H' p = some (.lst (qs.map V.ref)) ∧ qs.length = i ∧ qs.Nodup ∧ p ∉ qs ∧ (∀ b ∈ qs, H b = none) ∧ ∀ b ∈ qs, Pool H' 0 b)
    ⟨_, _, [], rfl, same_new np, upd_same, rfl, .nil, (by simp), (fun b hb => by cases hb), fun b hb => by cases hb⟩ ?_ ?_
  · rintro i σ H1 hi ⟨j1, j2, qs, rfl, s1, e1, hql, hqn, hpq, hqf, hqp⟩
    refine sq_set ?_
    refine cutN (fun σ' H' => ∃ c : Int, H' = H1 ∧ σ' = [some (.ref a), some (.ref p), some (.int (0 + (i : Int))), some (.int c)]) (fun N' k' => ?_) ?_
    · refine ⟨_, rfl, _, rfl, a, _, rfl, .inl (s1.seq hS), _, _, rfl, rfl, _, rfl, ?_⟩
      rw [List.length_map]
      by_cases c : 0 + (i : Int) < (ns.length : Int)
      · rw [decide_eq_true c]
        refine iteT ?_
        obtain ⟨z, hz1⟩ : ∃ z, ns[(0 + (i : Int)).toNat]? = some z := ⟨_, List.getElem?_eq_getElem (by omega)⟩
        exact ⟨_, rfl, _, rfl, a, _, _, _, rfl, rfl, s1.seq hS, atI_int (atI_nn (by omega) hz1), k' _ _ ⟨z, rfl, rfl⟩⟩
      · rw [decide_eq_false c]
        exact iteF (k' _ _ ⟨0, rfl, rfl⟩)
    rintro σ' H' ⟨c, rfl, rfl⟩
    refine ⟨_, rfl, .inl ⟨rfl, _, .inl (.inl e1)⟩, ?_⟩
    refine ⟨_, rfl, _, rfl, _, _, rfl, rfl, ⟨by decide, by decide, by decide⟩, _, _, rfl, rfl, ?_⟩
    refine .inr ⟨_, rfl, ?_⟩
    refine ⟨_, rfl, _, _, rfl, rfl, ?_, (by show 3 ≤ sizeLine; decide), fun q0 nq => ?_⟩
    · have e10 : (2 : Nat) ^ 10 = 1024 := by decide
      exact wide_mul (i := 31) (j := 0 + (i : Int)) (a := 10) (b := 10) (by decide) (by rw [e10]; omega) (by decide) (by decide) (by decide)
    refine ⟨p, _, _, rfl, rfl, at_new e1 nq, by rw [List.length_map]; omega, ?_⟩
    have npq : p ≠ q0 := ne_of_none e1 nq
    refine ⟨_, _, qs ++ [q0], rfl, same_mut (s1.trans (same_new nq)) np, ?_, by simp [hql], ?_, ?_, ?_, ?_⟩
    · rw [upd_same]
      simp
    · refine List.nodup_append.mpr ⟨hqn, by simp, fun x hx y hy e => ?_⟩
      obtain ⟨_, _, _, e', _⟩ := hqp x hx
      rw [e, List.mem_singleton.mp hy, nq] at e'
      cases e'
    · intro hm
      rcases List.mem_append.mp hm with hm | hm
      · exact hpq hm
      · exact npq (List.mem_singleton.mp hm)
    · intro b hb
      rcases List.mem_append.mp hb with hb | hb
      · exact hqf b hb
      · rw [List.mem_singleton.mp hb]
        exact fresh_of s1 nq
    · intro b hb
      rcases List.mem_append.mp hb with hb | hb
      · obtain ⟨c', f', m', e', r'⟩ := hqp b hb
        have nbp : b ≠ p := fun e => hpq (by rw [← e]; exact hb)
        exact ⟨c', f', m', at_mut (at_new e' nq) nbp, r'⟩
      · rw [List.mem_singleton.mp hb]
        exact ⟨_, _, _, at_mut upd_same npq.symm, by omega, by omega⟩
  rintro σ H' ⟨j1, j2, qs, rfl, s1, e1, hql, hqn, hpq, hqf, hqp⟩
  refine ⟨_, rfl, (by show 2 ≤ sizeLine; decide), fun d nd => ?_⟩
  have hdq : d ∉ qs := by
    intro hm
    obtain ⟨_, _, _, e, _⟩ := hqp d hm
    rw [nd] at e
    cases e
  have hdp : d ≠ p := (ne_of_none e1 nd).symm
  refine q d (p :: qs) _ ?_ (s1.trans (same_new nd)) ⟨⟨p, qs, 0, rfl, upd_same, at_new e1 nd, by decide, by decide, ?_, fun b hb => (hqp b hb).same (same_new nd)⟩, ?_⟩
  · intro x hx
    rcases List.mem_cons.mp hx with rfl | hx
    · exact fresh_of s1 nd
    · rcases List.mem_cons.mp hx with rfl | hx
      · exact np
      · exact hqf x hx
  · rintro rfl
    simp at hql
    omega
  · refine List.nodup_cons.mpr ⟨fun hm => ?_, List.nodup_cons.mpr ⟨hpq, hqn⟩⟩
    rcases List.mem_cons.mp hm with h | h
    · exact hdp h
    · exact hdq h
theorem ok__law_draw {f : Addr} {fd : FuncData} (F : FnP K "_law_draw" (top 17) [] f fd) (W : Wd K mg)  : FnOk P w K mg base CX0 1 f fd ["deck", "many"] (sp__law_draw K) := by
  refine FunD.ok F sc__law_draw (fun vs H Q E h => ?len) (fun cdv A outer s H vs Q E hr h => ?_)
  case len =>
    obtain ⟨a, qs, n, many, rfl, _⟩ := h
    rfl
  refine ⟨_, PSs.nox (pss_cons (ps_set (i := 2) sc__law_draw.nd rfl (.inl rfl) (pe_ix ix_list (pe_ix ix_list (pv 0) pe_int (fun _ _ => rfl)) (pe_op op_modN (pe_ix ix_list (pv 0) pe_int (fun _ _ => rfl)) (pe_callB call_len_seq (by rfl) W.n_len (by decide +kernel) (pa_cons (pe_ix ix_list (pv 0) pe_int (fun _ _ => rfl)) pa_nil))) (fun _ _ => rfl)))
  (pss_cons (ps_asg (pe_op op_add (pe_ix ix_list (pv 0) pe_int (fun _ _ => rfl)) pe_int) (pg_sub (pv 0) pe_int set_list))
  (pss_cons (ps_if (PW.pt (pw_and (pt_cmpR op_eq (pe_ix ix_list (pv 2) pe_int (fun _ _ => rfl)) pe_int (nomark _)) (pw_and1 (pt_cmpR op_gt (pe_ix ix_list (pv 2) pe_int (fun _ _ => rfl)) pe_int (nomark _))))) (pss_cons (ps_set (i := 3) sc__law_draw.nd rfl (.inl rfl) (pe_op op_modN (pe_ix ix_list (pv 2) pe_int (fun _ _ => rfl)) (pv 1)))
  (pss_cons (ps_asg (pe_op op_fdivN (pe_ix ix_list (pv 2) pe_int (fun _ _ => rfl)) (pv 1)) (pg_sub (pv 2) pe_int set_list))
  (pss_one (ps_ret (pv 3))))) pss_nil)
  (pss_cons (ps_asg (pe_op op_add (pe_ix ix_list (pv 2) pe_int (fun _ _ => rfl)) pe_int) (pg_sub (pv 2) pe_int set_list))
  (pss_cons (ps_set (i := 4) sc__law_draw.nd rfl (.inl rfl) (pe_op op_add (pe_op op_modN (pe_ix ix_list (pv 2) pe_int (fun _ _ => rfl)) pe_int) (pe_op op_mulW pe_int (pe_ix ix_list (pv 2) pe_int (fun _ _ => rfl)))))
  (pss_cons (ps_set (i := 4) sc__law_draw.nd rfl (.inl rfl) (pe_op op_modN (pe_op op_powW (pv 4) pe_int) pe_int))
  (pss_cons (ps_set (i := 4) sc__law_draw.nd rfl (.inl rfl) (pe_op op_modN (pe_op op_powW (pe_op op_add (pv 4) (pe_op op_mulW pe_int (pe_ix ix_list (pv 2) pe_int (fun _ _ => rfl)))) pe_int) pe_int))
  (pss_one (ps_ret (pe_op op_modN (pe_op op_fdivN (pv 4) pe_int) (pv 1))))))))))), ?_⟩
  obtain ⟨a, qs, n, many, rfl, hD, hn, hm, hm2, q⟩ := h
  obtain ⟨p, ps, t, rfl, ea, ep, t0, t1, hne, hpools⟩ := hD.ex
  have sA : SqL K H a [.ref p, .int t] := .inl (.inl ea)
  have sP : SqL K H p (ps.map V.ref) := .inl (.inl ep)
  have hql : 0 < ps.length := List.length_pos_iff.mpr hne
  obtain ⟨g1, g2⟩ := fmod_rng t (ps.map V.ref).length (by rw [List.length_map]; omega)
  generalize hr0 : t.fmod ((ps.map V.ref).length : Int) = r0 at g1 g2
  rw [List.length_map] at g2
  obtain ⟨b, hb⟩ : ∃ b, ps[r0.toNat]? = some b := ⟨_, List.getElem?_eq_getElem (by omega)⟩
  have hbm := List.mem_of_getElem? hb
  have hbq : b ∈ a :: p :: ps := List.mem_cons_of_mem _ (List.mem_cons_of_mem _ hbm)
  have hb1 : atI (ps.map V.ref) r0 = some (.ref b) := atI_nn g1 (by rw [List.getElem?_map, hb]; rfl)
  refine sq_set ?_
  refine ⟨_, rfl, a, _, _, _, rfl, rfl, sA, (rfl : atI [V.ref p, V.int t] 0 = some (V.ref p)), ?_⟩
  refine ⟨_, rfl, a, _, _, _, rfl, rfl, sA, (rfl : atI [V.ref p, V.int t] 1 = some (V.int t)), ?_⟩
  refine ⟨_, rfl, a, _, _, _, rfl, rfl, sA, (rfl : atI [V.ref p, V.int t] 0 = some (V.ref p)), p, _, rfl, .inl sP, ?_⟩
  refine ⟨_, _, rfl, rfl, (by rw [List.length_map]; omega), ?_⟩
  refine ⟨p, _, _, _, rfl, rfl, sP, (by rw [hr0]; exact hb1), ?_⟩
  -- deck[1] = deck[1] + 1
  refine ⟨_, rfl, a, _, _, _, rfl, rfl, sA, (rfl : atI [V.ref p, V.int t] 1 = some (V.int t)), _, _, rfl, rfl, ?_⟩
  refine ⟨_, rfl, a, _, _, 1, rfl, rfl, ea, rfl, ?_⟩
  obtain ⟨c, f, m, eb, m0, m1⟩ := hpools b hbm
  have hba : b ≠ a := fun e => (List.nodup_cons.mp hD.nd).1 (by rw [← e]; exact List.mem_cons_of_mem _ hbm)
  have eb1 : (upd H a (.lst [.ref p, .int (t + 1)])) b = some (.lst [.int c, .int f, .int m]) := at_mut eb hba
  have s1 : SameS (a :: p :: ps) H (upd H a (.lst [.ref p, .int (t + 1)])) := SameS.upd (List.mem_cons_self ..)
  have hdr : ∀ c' f' m' : Int, 0 ≤ m' → m' ≤ 2000 + (n + 1 : Nat) → Deck (upd (upd H a (.lst [.ref p, .int (t + 1)])) b (.lst [.int c', .int f', .int m'])) a (p :: ps) (n + 1) := fun c' f' m' h1 h2 => hD.draw ea hbm h1 h2
  have s2 : ∀ o, SameS (a :: p :: ps) H (upd (upd H a (.lst [.ref p, .int (t + 1)])) b o) := fun o => s1.trans (SameS.upd hbq)
  dsimp only
  rw [show ([V.ref p, V.int t].set 1 (V.int (t + 1))) = [V.ref p, V.int (t + 1)] from rfl]
  generalize (upd H a (.lst [.ref p, .int (t + 1)])) = H1 at eb1 s1 hdr s2
  have sB : SqL K H1 b [.int c, .int f, .int m] := .inl (.inl eb1)
  obtain ⟨r1, r2⟩ := fmod_rng c many (by omega)
  refine sq_if ?_
  refine cutT (fun k H' => H' = H1 ∧ (k = true → 0 < c)) (fun Q' k' => ?_) ?_
  · refine ⟨_, rfl, b, _, _, _, rfl, rfl, sB, (rfl : atI [V.int c, V.int f, V.int m] 1 = some (V.int f)), rfl, _, rfl, ?_⟩
    by_cases c1 : V.int f = V.int 1
    · rw [decide_eq_true c1]
      refine iteT ⟨_, rfl, b, _, _, _, rfl, rfl, sB, (rfl : atI [V.int c, V.int f, V.int m] 0 = some (V.int c)), _, _, rfl, rfl, _, rfl, ?_⟩
      exact k' _ _ ⟨rfl, fun h => of_decide_eq_true h⟩
    · rw [decide_eq_false c1]
      exact iteF (k' _ _ ⟨rfl, fun h => by cases h⟩)
  rintro k H' ⟨rfl, hk⟩
  cases k with
  | true =>
    refine iteT (sq_set ?_)
    refine ⟨_, rfl, b, _, _, _, rfl, rfl, sB, (rfl : atI [V.int c, V.int f, V.int m] 0 = some (V.int c)), _, rfl, _, _, rfl, rfl, by omega, ?_⟩
    refine ⟨_, rfl, b, _, _, _, rfl, rfl, sB, (rfl : atI [V.int c, V.int f, V.int m] 0 = some (V.int c)), _, rfl, _, _, rfl, rfl, ⟨by omega, by omega⟩, ?_⟩
    refine ⟨_, rfl, b, _, _, 0, rfl, rfl, eb1, rfl, ?_⟩
    refine ⟨_, rfl, ?_⟩
    exact q _ _ r1 r2 (hdr _ _ _ m0 (by omega)) (s2 _)
  | false =>
    refine iteF ?_
    refine ⟨_, rfl, b, _, _, _, rfl, rfl, sB, (rfl : atI [V.int c, V.int f, V.int m] 2 = some (V.int m)), _, _, rfl, rfl, _, rfl, b, _, _, 2, rfl, rfl, eb1, rfl, ?_⟩
    have eb2 : (upd H' b (.lst [.int c, .int f, .int (m + 1)])) b = some (.lst [.int c, .int f, .int (m + 1)]) := upd_same
    have sB2 : SqL K (upd H' b (.lst [.int c, .int f, .int (m + 1)])) b [.int c, .int f, .int (m + 1)] := .inl (.inl eb2)
    have b50 : (2 : Nat) ^ 50 = 1125899906842624 := by decide
    rw [b50] at hn
    have hm3 : (m + 1).natAbs < 2 ^ 60 := by
      have b60 : (2 : Nat) ^ 60 = 1152921504606846976 := by decide
      rw [b60]
      omega
    have hdr2 := hdr c f (m + 1) (by omega) (by omega)
    have s3 := s2 (.lst [.int c, .int f, .int (m + 1)])
    dsimp only
    rw [show ([V.int c, V.int f, V.int m].set 2 (V.int (m + 1))) = [V.int c, V.int f, V.int (m + 1)] from rfl]
    generalize (upd H' b (.lst [.int c, .int f, .int (m + 1)])) = H2 at eb2 sB2 hdr2 s3
    obtain ⟨x10, x11⟩ := fmod_rng c 162259276829213363391578010288127 (by decide)
    refine sq_set ?_
    refine ⟨_, rfl, b, _, _, _, rfl, rfl, sB2, (rfl : atI [V.int c, V.int f, V.int (m + 1)] 0 = some (V.int c)), _, _, rfl, rfl, (show (162259276829213363391578010288127 : Int) ≠ 0 by decide), ?_⟩
    refine ⟨_, rfl, b, _, _, _, rfl, rfl, sB2, (rfl : atI [V.int c, V.int f, V.int (m + 1)] 2 = some (V.int (m + 1))), _, _, rfl, rfl, ?_, _, _, rfl, rfl, ?_⟩
    · exact wide_of (small_of (k := 40) (by decide) (by decide)) (small_of (k := 60) hm3 (by decide))
    generalize c.fmod 162259276829213363391578010288127 = x1 at x10 x11
    dsimp only
    have big : ∀ z : Int, 0 ≤ z → z < 2 ^ 200 → z.natAbs < 2 ^ 1000 := fun z h1 h2 => by
      refine Nat.lt_of_lt_of_le (m := 2 ^ 200) ?_ (Nat.pow_le_pow_right (by decide) (by decide))
      have e1 : (2 : Int) ^ 200 = 1606938044258990275541962092341162602522202993782792835301376 := by decide
      have e2 : (2 : Nat) ^ 200 = 1606938044258990275541962092341162602522202993782792835301376 := by decide
      rw [e1] at h2
      rw [e2]
      omega
    have e200 : (2 : Int) ^ 200 = 1606938044258990275541962092341162602522202993782792835301376 := by decide
    have hx1 : x1 + 2038074743 * (m + 1) < 2 ^ 200 := by
      rw [e200]
      omega
    refine sq_set ?_
    refine ⟨_, rfl, _, _, rfl, rfl, ⟨by decide, by decide, big _ (by omega) hx1⟩, _, _, rfl, rfl, (show (618970019642690137449562111 : Int) ≠ 0 by decide), ?_⟩
    obtain ⟨y10, y11⟩ := fmod_rng ((x1 + 2038074743 * (m + 1)) ^ (3 : Int).toNat) 618970019642690137449562111 (by decide)
    dsimp only
    generalize ((x1 + 2038074743 * (m + 1)) ^ (3 : Int).toNat).fmod 618970019642690137449562111 = x2 at y10 y11
    have hx2 : x2 + 86028121 * (m + 1) < 2 ^ 200 := by
      rw [e200]
      omega
    refine sq_set ?_
    refine ⟨_, rfl, _, rfl, b, _, _, _, rfl, rfl, sB2, (rfl : atI [V.int c, V.int f, V.int (m + 1)] 2 = some (V.int (m + 1))), _, _, rfl, rfl, ?_, _, _, rfl, rfl, _, _, rfl, rfl, ⟨by decide, by decide, big _ (by omega) hx2⟩, _, _, rfl, rfl, (show (162259276829213363391578010288127 : Int) ≠ 0 by decide), ?_⟩
    · exact wide_of (small_of (k := 40) (by decide) (by decide)) (small_of (k := 60) hm3 (by decide))
    dsimp only
    generalize ((x2 + 86028121 * (m + 1)) ^ (3 : Int).toNat).fmod 162259276829213363391578010288127 = x3
    obtain ⟨z1, z2⟩ := fmod_rng (x3.fdiv 262144) many (by omega)
    refine ⟨_, rfl, _, _, rfl, rfl, ⟨by decide, by decide⟩, _, rfl, _, _, rfl, rfl, by omega, ?_⟩
    exact q _ _ z1 z2 hdr2 s3
theorem ok__law_same {n : Nat} {f : Addr} {fd : FuncData} (F : FnP K "_law_same" (top 18) [] f fd) (W : Wd K mg) (c__law_same : Cal P w K mg base CX0 (1 + n) "_law_same" ["found", "due"] [] (sp__law_same n K)) : FnOk P w K mg base CX0 (1 + n + 1) f fd ["found", "due"] (sp__law_same (n + 1) K) := by
  refine FunD.ok F sc__law_same (fun vs H Q E h => ?len) (fun cdv A outer s H vs Q E hr h => ?_)
  case len =>
    obtain ⟨x, y, d, rfl, _⟩ := h
    rfl
  refine ⟨_, PSs.nox (pss_cons (ps_if (pt_val (pe_callB call_isiT (by rfl) W.n_isinstance (by decide +kernel) (pa_cons (pv 1) (pa_cons (pe_tup (pa_cons (pe_ty (n := "list") W.n_list (by decide +kernel)) (pa_cons (pe_ty (n := "tuple") W.n_tuple (by decide +kernel)) pa_nil))) pa_nil)))) (pss_cons (ps_if (PW.pt (pw_or (pt_cmpR op_ne (pe_callB call_isi (by rfl) W.n_isinstance (by decide +kernel) (pa_cons (pv 0) (pa_cons (pe_ty (n := "list") W.n_list (by decide +kernel)) pa_nil))) (pe_callB call_isi (by rfl) W.n_isinstance (by decide +kernel) (pa_cons (pv 1) (pa_cons (pe_ty (n := "list") W.n_list (by decide +kernel)) pa_nil))) (nomark _)) (pw_or1 (pt_cmpR op_ne (pe_callB call_isi (by rfl) W.n_isinstance (by decide +kernel) (pa_cons (pv 0) (pa_cons (pe_ty (n := "tuple") W.n_tuple (by decide +kernel)) pa_nil))) (pe_callB call_isi (by rfl) W.n_isinstance (by decide +kernel) (pa_cons (pv 1) (pa_cons (pe_ty (n := "tuple") W.n_tuple (by decide +kernel)) pa_nil))) (nomark _))))) (pss_one (ps_ret pe_bl)) pss_nil)
  (pss_cons (ps_if (pt_cmpR op_ne (pe_callB call_len_seq (by rfl) W.n_len (by decide +kernel) (pa_cons (pv 0) pa_nil)) (pe_callB call_len_seq (by rfl) W.n_len (by decide +kernel) (pa_cons (pv 1) pa_nil)) (nomark _)) (pss_one (ps_ret pe_bl)) pss_nil)
  (pss_one (ps_ret (pe_cmpR (op_eqD hr.units) (pe_lc (own := [("one", 2), ("two", 3)]) (g := (gTup K 2 (gCons (gName 2) (gCons (gName 3) gNil)))) (by rfl) sc__law_same.nd (RZ.pi_zipA (by rfl) W.n_zip (pa_cons (pv 0) (pa_cons (pv 1) pa_nil))) (blkOk_by (own := [("one", 2), ("two", 3)]) (N := ["found", "due", "one", "two"]) (sc := defScope (top 18)) (by decide +kernel)) (fun _ _ _ _ _ => (pg_tup rfl (pgs_cons (pg_name (i := 2) sc__law_same.nd rfl (Or.inl rfl)) (pgs_cons (pg_name (i := 3) sc__law_same.nd rfl (Or.inl rfl)) pgs_nil)))) (fun _ _ _ _ _ => pts_one (pt_not (pt_val (pe_cal c__law_same (hr.mono (by omega)) pass0 (pa_cons (pv 2) (pa_cons (pv 3) pa_nil)))))) (fun _ _ _ _ _ => pe_int)) (pe_lst pa_nil) (nomark _)))))) pss_nil)
  (pss_cons (ps_if (PW.pt (pw_or (pt_cmpR op_isN (pv 1) pe_non (nomark _)) (pw_or1 (pt_cmpR op_isN (pv 0) pe_non (nomark _))))) (pss_one (ps_ret (pe_and (pe_cmpR op_isN (pv 1) pe_non (nomark _)) (pe_one (pe_cmpR op_isN (pv 0) pe_non (nomark _)))))) pss_nil)
  (pss_cons (ps_if (PW.pt (pw_or (pt_cmpR op_ne (pe_callB call_isi (by rfl) W.n_isinstance (by decide +kernel) (pa_cons (pv 0) (pa_cons (pe_ty (n := "bool") W.n_bool (by decide +kernel)) pa_nil))) (pe_callB call_isi (by rfl) W.n_isinstance (by decide +kernel) (pa_cons (pv 1) (pa_cons (pe_ty (n := "bool") W.n_bool (by decide +kernel)) pa_nil))) (nomark _)) (pw_or1 (pt_cmpR op_ne (pe_callB call_isi (by rfl) W.n_isinstance (by decide +kernel) (pa_cons (pv 0) (pa_cons (pe_ty (n := "str") W.n_str (by decide +kernel)) pa_nil))) (pe_callB call_isi (by rfl) W.n_isinstance (by decide +kernel) (pa_cons (pv 1) (pa_cons (pe_ty (n := "str") W.n_str (by decide +kernel)) pa_nil))) (nomark _))))) (pss_one (ps_ret pe_bl)) pss_nil)
  (pss_one (ps_ret (pe_cmpR op_eq (pv 0) (pv 1) (nomark _))))))), ?_⟩
  obtain ⟨x, y, d, rfl, hx, hy, hc, hd, _, q⟩ := h
  have hz : sizeLine = 16777216 := by decide
  have tyx : ∀ {H' : Hp}, Same H H' → TyX K H' x (.type (cls (some d))) := fun s => Wc.Dp.ty (Dp.same s _ _ hx)
  have tyy : ∀ {H' : Hp}, Same H H' → TyX K H' y (.type (cls (some d))) := fun s => Wc.Dp.ty (Dp.same s _ _ hy)
  refine sq_if ?_
  refine ⟨_, rfl, (by show 2 ≤ sizeLine; decide), fun tp ntp => ?_⟩
  have s1 : Same H (upd H tp (.tup [.ty "list", .ty "tuple"])) := same_new ntp
  refine ⟨y, tp, _, _, _, _, rfl, upd_same, .cons (.ty _) (.cons (.ty _) .nil), tyy s1, isi_seq (some d), _, rfl, ?_⟩
  generalize (upd H tp (.tup [.ty "list", .ty "tuple"])) = H1 at s1
  cases d with
  | none =>
    cases hx
    cases hy
    refine iteF ⟨_, rfl, rfl, _, rfl, ?_⟩
    rw [eqT rfl]
    refine iteT ?_
    refine ⟨_, rfl, rfl, _, rfl, ?_⟩
    rw [eqT rfl]
    refine iteT ⟨_, rfl, rfl, ?_⟩
    rw [eqT rfl]
    exact q _ s1
  | bool b =>
    cases hx
    cases hy
    refine iteF (nx_go ?_)
    dsimp only
    refine sq_no (fun H' => H' = H1) (fun Q' k' => ⟨_, rfl, rfl, _, rfl, iteF ⟨_, rfl, rfl, _, rfl, k' _ rfl⟩⟩) ?_
    rintro H' rfl
    refine sq_no (fun H'' => H'' = H') (fun Q' k' => ?_) ?_
    · refine ⟨_, rfl, _, _, _, _, _, rfl, .ty _, tyx s1, isi_bool (some (.bool b)), _, rfl, _, _, _, _, _, rfl, .ty _, tyy s1, isi_bool (some (.bool b)), rfl, _, rfl, ?_⟩
      rw [neF rfl]
      refine iteF ⟨_, rfl, _, _, _, _, _, rfl, .ty _, tyx s1, isi_str (some (.bool b)), _, rfl, _, _, _, _, _, rfl, .ty _, tyy s1, isi_str (some (.bool b)), rfl, _, rfl, ?_⟩
      rw [neF rfl]
      exact k' _ rfl
    rintro H'' rfl
    refine rt_ret (op_go ⟨_, rfl, _, rfl, rfl, ?_⟩)
    rw [eqT rfl]
    exact q _ s1
  | int i =>
    cases hx
    cases hy
    refine iteF (nx_go ?_)
    dsimp only
    refine sq_no (fun H' => H' = H1) (fun Q' k' => ⟨_, rfl, rfl, _, rfl, iteF ⟨_, rfl, rfl, _, rfl, k' _ rfl⟩⟩) ?_
    rintro H' rfl
    refine sq_no (fun H'' => H'' = H') (fun Q' k' => ?_) ?_
    · refine ⟨_, rfl, _, _, _, _, _, rfl, .ty _, tyx s1, isi_bool (some (.int i)), _, rfl, _, _, _, _, _, rfl, .ty _, tyy s1, isi_bool (some (.int i)), rfl, _, rfl, ?_⟩
      rw [neF rfl]
      refine iteF ⟨_, rfl, _, _, _, _, _, rfl, .ty _, tyx s1, isi_str (some (.int i)), _, rfl, _, _, _, _, _, rfl, .ty _, tyy s1, isi_str (some (.int i)), rfl, _, rfl, ?_⟩
      rw [neF rfl]
      exact k' _ rfl
    rintro H'' rfl
    refine rt_ret (op_go ⟨_, rfl, _, rfl, rfl, ?_⟩)
    rw [eqT rfl]
    exact q _ s1
  | str z =>
    cases hx
    cases hy
    refine iteF (nx_go ?_)
    dsimp only
    refine sq_no (fun H' => H' = H1) (fun Q' k' => ⟨_, rfl, rfl, _, rfl, iteF ⟨_, rfl, rfl, _, rfl, k' _ rfl⟩⟩) ?_
    rintro H' rfl
    refine sq_no (fun H'' => H'' = H') (fun Q' k' => ?_) ?_
    · refine ⟨_, rfl, _, _, _, _, _, rfl, .ty _, tyx s1, isi_bool (some (.str z)), _, rfl, _, _, _, _, _, rfl, .ty _, tyy s1, isi_bool (some (.str z)), rfl, _, rfl, ?_⟩
      rw [neF rfl]
      refine iteF ⟨_, rfl, _, _, _, _, _, rfl, .ty _, tyx s1, isi_str (some (.str z)), _, rfl, _, _, _, _, _, rfl, .ty _, tyy s1, isi_str (some (.str z)), rfl, _, rfl, ?_⟩
      rw [neF rfl]
      exact k' _ rfl
    rintro H'' rfl
    refine rt_ret (op_go ⟨_, rfl, _, rfl, rfl, ?_⟩)
    rw [eqT rfl]
    exact q _ s1
  | list ds =>
    cases hx with
    | @lst a xs _ hS1 ha1 =>
    cases hy with
    | @lst b ys _ hS2 ha2 =>
    refine iteT ?_
    refine sq_no (fun H' => H' = H1) (fun Q' k' => ?_) ?_
    · refine ⟨_, rfl, _, _, _, _, _, rfl, .ty _, tyx s1, isi_list (some (.list ds)), _, rfl, _, _, _, _, _, rfl, .ty _, tyy s1, isi_list (some (.list ds)), rfl, _, rfl, ?_⟩
      rw [neF rfl]
      refine iteF ⟨_, rfl, _, _, _, _, _, rfl, .ty _, tyx s1, isi_tuple (some (.list ds)), _, rfl, _, _, _, _, _, rfl, .ty _, tyy s1, isi_tuple (some (.list ds)), rfl, _, rfl, ?_⟩
      rw [neF rfl]
      exact k' _ rfl
    rintro H' rfl
    have l1 := dpAll_len ha1
    have l2 := dpAll_len ha2
    refine sq_no (fun H'' => H'' = H') (fun Q' k' => ?_) ?_
    · refine ⟨_, rfl, a, _, rfl, .inl (s1.seq hS1), _, rfl, b, _, rfl, .inl (s1.seq hS2), rfl, _, rfl, ?_⟩
      rw [l1, l2, neF rfl]
      exact k' _ rfl
    rintro H'' rfl
    obtain ⟨m, rfl⟩ : ∃ m, n = m + 1 := ⟨n - 1, by rw [PyData.depth] at hd; omega⟩
    refine rt_ret (op_go ⟨_, rfl, _, rfl, a, b, _, _, rfl, .inl ⟨s1.seq hS1, s1.seq hS2, fun D nD => ?_⟩⟩)
    refine lc_noneZ (xs := xs) (ys := ys) (s1.seq hS1) (s1.seq hS2) nD (fun i x' y' H2 hx' hy' s2 Q' k => ?_) (fun H2 s2 e2 => ?_)
    · obtain ⟨d1, g1, p1⟩ := dpAll_get ha1 hx'
      obtain ⟨d2, g2, p2⟩ := dpAll_get ha2 hy'
      rw [g1] at g2
      cases g2
      have hm := List.mem_of_getElem? g1
      have hdm := depth_mem hm
      rw [PyData.depth] at hd
      exact ⟨_, rfl, _, rfl, x', y', d1, rfl, Dp.same (s1.trans s2) _ _ p1, Dp.same (s1.trans s2) _ _ p2, lay_mem (by simpa [PyData.canLay0] using hc) hm, by omega, fun _ _ => trivial, fun H3 s3 => ⟨_, rfl, k _ s3⟩⟩
    · refine ⟨Nat.zero_le _, fun q1 n1 => ?_⟩
      exact (Nc.ints (n := 0) (ns := []) (Nat.zero_le _) (fun m hm => by cases hm)).eqD (dp_ints (show IL _ D [] from at_new e2 n1)) (dp_ints (ns := []) upd_same) (by decide) (q _ ((s1.trans s2).trans (same_new n1)))
  | tuple ds =>
    cases hx with
    | @tup a xs _ hS1 ha1 =>
    cases hy with
    | @tup b ys _ hS2 ha2 =>
    refine iteT ?_
    refine sq_no (fun H' => H' = H1) (fun Q' k' => ?_) ?_
    · refine ⟨_, rfl, _, _, _, _, _, rfl, .ty _, tyx s1, isi_list (some (.tuple ds)), _, rfl, _, _, _, _, _, rfl, .ty _, tyy s1, isi_list (some (.tuple ds)), rfl, _, rfl, ?_⟩
      rw [neF rfl]
      refine iteF ⟨_, rfl, _, _, _, _, _, rfl, .ty _, tyx s1, isi_tuple (some (.tuple ds)), _, rfl, _, _, _, _, _, rfl, .ty _, tyy s1, isi_tuple (some (.tuple ds)), rfl, _, rfl, ?_⟩
      rw [neF rfl]
      exact k' _ rfl
    rintro H' rfl
    have l1 := dpAll_len ha1
    have l2 := dpAll_len ha2
    refine sq_no (fun H'' => H'' = H') (fun Q' k' => ?_) ?_
    · refine ⟨_, rfl, a, _, rfl, .inr (SqT.same s1 hS1), _, rfl, b, _, rfl, .inr (SqT.same s1 hS2), rfl, _, rfl, ?_⟩
      rw [l1, l2, neF rfl]
      exact k' _ rfl
    rintro H'' rfl
    obtain ⟨m, rfl⟩ : ∃ m, n = m + 1 := ⟨n - 1, by rw [PyData.depth] at hd; omega⟩
    refine rt_ret (op_go ⟨_, rfl, _, rfl, a, b, _, _, rfl, .inr ⟨SqT.same s1 hS1, SqT.same s1 hS2, fun D nD => ?_⟩⟩)
    refine lc_noneZT (xs := xs) (ys := ys) (by rw [l1, l2]) (SqT.same s1 hS1) (SqT.same s1 hS2) nD (fun i x' y' H2 hx' hy' s2 Q' k => ?_) (fun H2 s2 e2 => ?_)
    · obtain ⟨d1, g1, p1⟩ := dpAll_get ha1 hx'
      obtain ⟨d2, g2, p2⟩ := dpAll_get ha2 hy'
      rw [g1] at g2
      cases g2
      have hm := List.mem_of_getElem? g1
      have hdm := depth_mem hm
      rw [PyData.depth] at hd
      exact ⟨_, rfl, _, rfl, x', y', d1, rfl, Dp.same (s1.trans s2) _ _ p1, Dp.same (s1.trans s2) _ _ p2, lay_mem (by simpa [PyData.canLay0] using hc) hm, by omega, fun _ _ => trivial, fun H3 s3 => ⟨_, rfl, k _ s3⟩⟩
    · refine ⟨Nat.zero_le _, fun q1 n1 => ?_⟩
      exact (Nc.ints (n := 0) (ns := []) (Nat.zero_le _) (fun m hm => by cases hm)).eqD (dp_ints (show IL _ D [] from at_new e2 n1)) (dp_ints (ns := []) upd_same) (by decide) (q _ ((s1.trans s2).trans (same_new n1)))
  | dict _ => cases hx
theorem ok__law_span {f : Addr} {fd : FuncData} (F : FnP K "_law_span" (top 19) [] f fd) (W : Wd K mg)  : FnOk P w K mg base CX0 1 f fd ["sizes"] (sp__law_span K) := by
  refine FunD.ok F sc__law_span (fun vs H Q E h => ?len) (fun cdv A outer s H vs Q E hr h => ?_)
  case len =>
    obtain ⟨a, ns, rfl, _⟩ := h
    rfl
  refine ⟨_, PSs.nox (pss_one (ps_ret (pe_op op_sub (pe_op op_add (pe_callB (cr_sum rfl) (by rfl) W.n_sum (by decide +kernel) (pa_cons (pv 0) pa_nil)) (pe_callB call_len_seq (by rfl) W.n_len (by decide +kernel) (pa_cons (pv 0) pa_nil))) pe_int))), ?_⟩
  obtain ⟨a, ns, rfl, hS, q⟩ := h
  refine rt_ret (op_go ⟨_, rfl, a, _, rfl, hS, _, rfl, a, _, rfl, .inl hS, _, _, rfl, rfl, _, _, rfl, rfl, ?_⟩)
  dsimp only
  rw [List.length_map]
  exact q
theorem ok__law_plan {f : Addr} {fd : FuncData} (F : FnP K "_law_plan" (top 20) [] f fd) (W : Wd K mg) (c__law_draw : Cal P w K mg base CX0 1 "_law_draw" ["deck", "many"] [] (sp__law_draw K)) (c__law_span : Cal P w K mg base CX0 1 "_law_span" ["sizes"] [] (sp__law_span K)) : FnOk P w K mg base CX0 2 f fd ["deck", "most", "longest"] (sp__law_plan K) := by
  refine FunD.ok F sc__law_plan (fun vs H Q E h => ?len) (fun cdv A outer s H vs Q E hr h => ?_)
  case len =>
    obtain ⟨a, qs, n, most, longest, rfl, _⟩ := h
    rfl
  refine ⟨_, PSs.nox (pss_cons (ps_set (i := 3) sc__law_plan.nd rfl (.inl rfl) (pe_lst (pa_cons (pe_op op_add pe_int (pe_cal c__law_draw (hr.mono (by decide)) pass0 (pa_cons (pv 0) (pa_cons (pv 2) pa_nil)))) pa_nil)))
  (pss_cons (ps_for PassesOwn.never rfl (pi_range1 (by rfl) W.n_range (pa_cons (pe_cal c__law_draw (hr.mono (by decide)) pass0 (pa_cons (pv 0) (pa_cons (pv 1) pa_nil))) pa_nil)) (pg_name (i := 4) sc__law_plan.nd rfl (Or.inl rfl))
  (pss_cons (ps_set (i := 5) sc__law_plan.nd rfl (.inl rfl) (pe_op op_add pe_int (pe_cal c__law_draw (hr.mono (by decide)) pass0 (pa_cons (pv 0) (pa_cons (pe_ix ix_list (pe_lst (pa_cons pe_int (pa_cons pe_int (pa_cons (pv 2) pa_nil)))) (pe_cal c__law_draw (hr.mono (by decide)) pass0 (pa_cons (pv 0) (pa_cons pe_int pa_nil))) (fun _ _ => rfl)) pa_nil)))))
  (pss_one (ps_if (pt_cmpR op_le (pe_op op_add (pe_op op_add (pe_cal c__law_span (hr.mono (by decide)) pass0 (pa_cons (pv 3) pa_nil)) pe_int) (pv 5)) pe_int (nomark _)) (pss_one (ps_expr (pe_bm PySem.F.plainAttrs_list PySem.F.slot_list_append PySem.F.type_list_append mt_append (pv 3) (pa_cons (pv 5) pa_nil)))) pss_nil))))
  (pss_one (ps_ret (pv 3))))), ?_⟩
  obtain ⟨a, qs, n, most, longest, rfl, hD, hn, hm1, hm2, hl1, hl2, q⟩ := h
  have e40 : (2 : Nat) ^ 40 = 1099511627776 := by decide
  have e50 : (2 : Nat) ^ 50 = 1125899906842624 := by decide
  have hz : sizeLine = 16777216 := by decide
  rw [e40] at hn
  refine sq_set ⟨_, rfl, _, rfl, a, qs, n, longest, rfl, hD, by omega, hl1, by omega, fun r H1 r0 r1 D1 s1 => ⟨_, _, rfl, rfl, (by show 1 ≤ sizeLine; decide), fun p np => ?_⟩⟩
  have npS : p ∉ a :: qs := D1.fresh np
  refine ⟨_, rfl, _, rfl, a, qs, n + 1, most, rfl, D1.new np, by omega, hm1, by omega, fun r2 H2 r20 r21 D2 s2 => ⟨r2, rfl, by omega, by omega, ?_⟩⟩
  have npH : H p = Option.none := s1.free npS np
  refine for_range (lo := 0) (n := r2.toNat) (fun i σ H' => ∃ ws j4 j5, σ = [some (.ref a), some (.int most), some (.int longest), some (.ref p), j4, j5] ∧ SameS (a :: qs) H H' ∧ Deck H' a qs (n + 2 + 2 * i) ∧ IL H' p ws ∧ Txt' ws)
    ⟨[1 + r], _, _, rfl, (s1.trans (SameS.of (same_new np))).trans s2, D2, s2.il npS upd_same, ?_, ?_, ?_⟩ ?_ ?_
  · simp
  · intro m hm
    rw [List.mem_singleton.mp hm]
    omega
  · simp [total]
    omega
  · rintro i σ H3 hi ⟨ws, j4, j5, rfl, s3, D3, e3, ht⟩
    refine sq_set (op_go ⟨_, rfl, _, rfl, (by show 3 ≤ sizeLine; decide), fun t nt => ⟨_, rfl, a, qs, _, 3, rfl, D3.new nt, by omega, by decide, by decide, fun r4 H4 r40 r41 D4 s4 => ?_⟩⟩)
    have htS : t ∉ a :: qs := D3.fresh nt
    have e4 : H4 t = some (.lst [.int 2, .int 5, .int longest]) := s4.at htS upd_same
    have e34 : IL H4 p ws := s4.il npS (e3.new nt)
    have s34 : SameS (a :: qs) H H4 := (s3.trans (SameS.of (same_new nt))).trans s4
    obtain ⟨mn, hmn, mn1, mn2⟩ : ∃ mn : Int, atI [V.int 2, V.int 5, V.int longest] r4 = some (.int mn) ∧ 1 ≤ mn ∧ mn ≤ 600 := by
      have : r4 = 0 ∨ r4 = 1 ∨ r4 = 2 := by omega
      rcases this with rfl | rfl | rfl
      · exact ⟨2, rfl, by decide, by decide⟩
      · exact ⟨5, rfl, by decide, by decide⟩
      · exact ⟨longest, rfl, hl1, hl2⟩
    refine ⟨t, _, _, _, rfl, rfl, .inl (.inl e4), hmn, a, qs, _, mn, rfl, D4, by omega, mn1, by omega, fun r5 H5 r50 r51 D5 s5 => ⟨_, _, rfl, rfl, ?_⟩⟩
    have e35 : IL H5 p ws := s5.il npS e34
    have s35 := s34.trans s5
    refine ⟨_, rfl, p, ws, rfl, e35.seq, _, _, rfl, rfl, _, rfl, _, _, rfl, rfl, _, _, rfl, rfl, _, rfl, ?_⟩
    by_cases c : total ws + 1 + (1 + r5) ≤ 600
    · rw [decide_eq_true c]
      refine iteT ⟨_, rfl, .inl ⟨rfl, _, e35.seq⟩, _, rfl, p, _, _, rfl, rfl, e35, ?_, ?_⟩
      · rw [List.length_map]
        have := ht.len
        omega
      refine ⟨ws ++ [1 + r5], _, _, rfl, s35.mut npH, ?_, ?_, ?_⟩
      · exact (D5.mut npS).mono (by omega)
      · show upd _ _ _ _ = _
        rw [ints_push, upd_same]
      · obtain ⟨h1, h2, h3⟩ := ht
        refine ⟨by simp, fun m hm => ?_, ?_⟩
        · rcases List.mem_append.mp hm with hm | hm
          · exact h2 m hm
          · rw [List.mem_singleton.mp hm]
            omega
        · unfold total at c ⊢
          rw [List.sum_append, List.length_append]
          simp
          omega
    · rw [decide_eq_false c]
      exact iteF ⟨ws, _, _, rfl, s35, D5.mono (by omega), e35, ht⟩
  rintro σ H' ⟨ws, j4, j5, rfl, s3, D3, e3, ht⟩
  exact ⟨_, rfl, q p ws H' npH s3 (D3.mono (by omega)) e3 ht⟩
theorem ok__law_told {f : Addr} {fd : FuncData} (F : FnP K "_law_told" (top 21) [] f fd) (W : Wd K mg) (c_replace_words : Cal P w K mg base (L2.CX P w) 5 "replace_words" ["text", "first", "count", "words"] [] (sp_replace_words K)) (cK_replace_words_words_count_first_text : CalK P w K mg base (L2.CX P w) 5 "replace_words" ["text", "first", "count", "words"] ["words", "count", "first", "text"] [3, 2, 1, 0] (sp_replace_words K)) : FnOk P w K mg base CX0 6 f fd ["plan", "at", "many", "more", "is_named"] (sp__law_told K) := by
  refine FunD.ok F sc__law_told (fun vs H Q E h => ?len) (fun cdv A outer s H vs Q E hr h => ?_)
  case len =>
    obtain ⟨w, b, ws, ms, f, c, k, rfl, _⟩ := h
    rfl
  refine ⟨_, PSs.nox (pss_one (ps_try_only rfl rfl ⟨rfl, by decide, .inl W.x_InvalidLengths.g⟩ takes0 (fun Wx pn xe tk po => (pss_cons (ps_if (pt_val (pv 4)) (pss_one (ps_ret (pe_calKS cK_replace_words_words_count_first_text (hr.mono (by decide)) (fun σ => passAt tk σ) (pk_cons (pv 3) (pk_cons (pv 2) (pk_cons (pv 1) (pk_cons (pv 0) pk_nil))))))) pss_nil)
  (pss_one (ps_ret (pe_calS c_replace_words (hr.mono (by decide)) (fun σ => passAt tk σ) (pa_cons (pv 0) (pa_cons (pv 1) (pa_cons (pv 2) (pa_cons (pv 3) pa_nil))))))))) (fun a_ oe_ cls_ d_ pn_ _ _ => (pss_one (ps_ret pe_str))))), ?_⟩
  obtain ⟨w, b, ws, ms, f, c, k, rfl, hw, ht, hb, hm, f1, f2, c1, c2, q, q2⟩ := h
  refine ⟨_, rfl, _, rfl, ?_⟩
  cases k with
  | true =>
    refine iteT ?_
    exact ⟨_, rfl, _, rfl, _, rfl, _, rfl, rfl, replace_words_of hw.seq ht hb hm f1 f2 c1 c2 q fun hn H' s' => ⟨true, W.m_InvalidLengths_InvalidLengths, fun _ a' _ => q2 hn H' s', fun h => by cases h⟩⟩
  | false =>
    refine iteF (nx_go ?_)
    dsimp only
    exact ⟨_, rfl, _, rfl, _, rfl, _, rfl, replace_words_of hw.seq ht hb hm f1 f2 c1 c2 q fun hn H' s' => ⟨true, W.m_InvalidLengths_InvalidLengths, fun _ a' _ => q2 hn H' s', fun h => by cases h⟩⟩
theorem ok__law_right {f : Addr} {fd : FuncData} (F : FnP K "_law_right" (top 22) [] f fd) (W : Wd K mg) (c__law_same : Cal P w K mg base CX0 9 "_law_same" ["found", "due"] [] (sp__law_same 8 K)) (c__law_told : Cal P w K mg base CX0 6 "_law_told" ["plan", "at", "many", "more", "is_named"] [] (sp__law_told K)) (c__law_span : Cal P w K mg base CX0 1 "_law_span" ["sizes"] [] (sp__law_span K)) : FnG P w K mg base 10 f fd ["plan", "at", "many", "more"] (sp__law_right K) := by
  refine fnG_of F sc__law_right (fun vs H Q E h => ?len) (fun cdv A outer s H vs Q E hgd hr h => ?_)
  case len =>
    obtain ⟨w, b, ws, ms, f, c, rfl, _⟩ := h
    rfl
  refine ⟨_, (pss_cons (ps_par (i := 4) (j := 5) (by rfl) sc__law_right.nd rfl rfl (by decide) rfl rfl (pa_cons (pe_lst pa_nil) (pa_cons (pe_callB (call_reprD hgd hr) (by rfl) W.n_repr (by decide +kernel) (pa_cons (pe_lst (pa_cons (pv 0) (pa_cons (pv 3) pa_nil))) pa_nil)) pa_nil)) (by rfl))
  (pss_cons (ps_for PassesOwn.never rfl (pi_range1 (by rfl) W.n_range (pa_cons (pe_op op_add (pe_callB call_len_seq (by rfl) W.n_len (by decide +kernel) (pa_cons (pv 0) pa_nil)) pe_int) pa_nil)) (pg_name (i := 6) sc__law_right.nd rfl (Or.inl rfl))
  (pss_cons (ps_if (pt_cmpR op_eq (pv 6) (pv 1) (nomark _)) (pss_one (ps_set (i := 4) sc__law_right.nd rfl (.inl rfl) (pe_op op_cat (pv 4) (pv 3)))) pss_nil)
  (pss_one (ps_if (PW.pt (pw_and (pt_cmpR op_lt (pv 6) (pe_callB call_len_seq (by rfl) W.n_len (by decide +kernel) (pa_cons (pv 0) pa_nil)) (nomark _)) (pw_and1 (pt_not (pt_chain op_le op_lt (pv 1) (pv 6) (pe_op op_add (pv 1) (pv 2))))))) (pss_one (ps_expr (pe_bm PySem.F.plainAttrs_list PySem.F.slot_list_append PySem.F.type_list_append mt_append (pv 4) (pa_cons (pe_ix ix_list (pv 0) (pv 6) (fun _ _ => rfl)) pa_nil)))) pss_nil))))
  (pss_cons (ps_set (i := 4) sc__law_right.nd rfl (.inl rfl) (pe_ifExp (PW.pt (pw_and (pt_cmpR (op_neD hr.units) (pv 4) (pe_lst pa_nil) (nomark _)) (pw_and1 (pt_cmpR op_le (pe_cal c__law_span (hr.mono (by decide)) pass0 (pa_cons (pv 4) pa_nil)) pe_int (nomark _))))) (pv 4) pe_str))
  (pss_cons (ps_for PassesOwn.never rfl (pi_list (pe_lst (pa_cons pe_bl (pa_cons pe_bl pa_nil)))) (pg_name (i := 7) sc__law_right.nd rfl (Or.inl rfl))
  (pss_cons (ps_set (i := 8) sc__law_right.nd rfl (.inl rfl) (pe_cal c__law_told (hr.mono (by decide)) pass0 (pa_cons (pv 0) (pa_cons (pv 1) (pa_cons (pv 2) (pa_cons (pv 3) (pa_cons (pv 7) pa_nil)))))))
  (pss_cons (ps_if (PW.pt (pw_or (pt_not (pt_val (pe_cal c__law_same (hr.mono (by decide)) pass0 (pa_cons (pv 8) (pa_cons (pv 4) pa_nil))))) (pw_or1 (pt_cmpR op_ne (pe_callB (call_reprD hgd hr) (by rfl) W.n_repr (by decide +kernel) (pa_cons (pe_lst (pa_cons (pv 0) (pa_cons (pv 3) pa_nil))) pa_nil)) (pv 5) (nomark _))))) (pss_one (ps_ret pe_bl)) pss_nil)
  (pss_one (ps_if (pt_cmpR (op_neD hr.units) (pv 8) pe_str (nomark _)) (pss_one (ps_expr (pe_bm PySem.F.plainAttrs_list PySem.F.slot_list_append PySem.F.type_list_append mt_append (pv 8) (pa_cons pe_int pa_nil)))) pss_nil)))))
  (pss_one (ps_ret pe_bl)))))), ?_⟩
  obtain ⟨w, b, ws, ms, f, c, rfl, hw, ht, hb, hm, hms, f1, f2, c1, c2, q⟩ := h
  have hz : sizeLine = 16777216 := by decide
  have hlen := ht.len
  have nW : Nc (2002 * 300 + 3) 1 (.list (ws.map .int)) := Nc.ints hlen ht.small
  have nM : Nc (2002 * 5000 + 3) 1 (.list (ms.map .int)) := Nc.ints hm (ints_small (B := 3000) (by decide) fun m h => by have := hms m h; omega)
  have nWM := Nc.list (Ncs.cons nW (Ncs.cons nM (Ncs.nil (k := 0))))
  refine ⟨Nat.zero_le _, fun p np => ?_⟩
  refine cb1 ⟨_, rfl, _, rfl, (by show 2 ≤ sizeLine; decide), fun p2 np2 => nWM.repr (.lst (.inl (.inl upd_same)) (.cons (dp_ints ((hw.new np).new np2)) (.cons (dp_ints ((hb.new np).new np2)) .nil))) (by decide) (by decide) ⟨_, _, rfl, ?_⟩⟩
  have s1 : Same H (upd (upd H p (.lst [])) p2 (.lst [.ref w, .ref b])) := (same_new np).trans (same_new np2)
  have ep : IL (upd (upd H p (.lst [])) p2 (.lst [.ref w, .ref b])) p [] := at_new upd_same np2
  generalize (upd (upd H p (.lst [])) p2 (.lst [.ref w, .ref b])) = H1 at s1 ep
  dsimp only
  refine ⟨_, rfl, w, _, rfl, .inl (s1 _ _ hw |> IL.seq), _, _, rfl, rfl, ((ws.length + 1 : Nat) : Int), by rw [List.length_map]; push_cast; rfl, by omega, by omega, ?_⟩
  have hN : (((ws.length + 1 : Nat) : Int)).toNat = ws.length + 1 := by omega
  refine for_range (lo := 0) (n := (((ws.length + 1 : Nat) : Int)).toNat) (fun i σ H' => ∃ pd j6 j7 j8, σ = [some (.ref w), some (.int f), some (.int c), some (.ref b), some (.ref pd), some (.str (PyData.list [.list (ws.map .int), .list (ms.map .int)]).shown), j6, j7, j8] ∧ H pd = Option.none ∧ Same H H' ∧ IL H' pd (rightAcc ws ms f.toNat c.toNat i))
    ⟨p, _, _, _, rfl, np, s1, by unfold rightAcc; rw [if_pos (Nat.zero_le _)]; exact ep⟩ ?_ ?_
  · rintro i σ H2 hi ⟨pd, j6, j7, j8, rfl, npd, s2, e2⟩
    have hrl := rightAcc_len ws ms f.toNat c.toNat i
    refine gn_go ?_
    refine cutN (fun σ' H' => ∃ pd, σ' = [some (.ref w), some (.int f), some (.int c), some (.ref b), some (.ref pd), some (.str (PyData.list [.list (ws.map .int), .list (ms.map .int)]).shown), some (.int (0 + (i : Int))), j7, j8] ∧ H pd = Option.none ∧ Same H H' ∧ IL H' pd (rightAcc ws ms f.toNat c.toNat i ++ if i = f.toNat then ms else [])) (fun N' k' => ?_) ?_
    · refine ⟨_, rfl, _, rfl, rfl, _, rfl, ?_⟩
      by_cases c3 : V.int (0 + (i : Int)) = V.int f
      · have c4 : i = f.toNat := by
          injection c3 with c3
          omega
        rw [decide_eq_true c3]
        refine iteT ⟨_, rfl, _, rfl, pd, b, _, _, rfl, rfl, e2, s2 _ _ hb, by rw [List.length_map, List.length_map]; omega, fun p3 np3 => k' _ _ ⟨p3, rfl, fresh_of s2 np3, s2.trans (same_new np3), ?_⟩⟩
        show upd _ _ _ _ = _
        rw [upd_same, if_pos c4, ints_app]
      · have c4 : ¬ i = f.toNat := fun e => c3 (by congr 1; omega)
        rw [decide_eq_false c3]
        refine iteF (k' _ _ ⟨pd, rfl, npd, s2, ?_⟩)
        rw [if_neg c4, List.append_nil]
        exact e2
    rintro σ' H3 ⟨pd3, rfl, npd3, s3, e3⟩
    have hacc : rightAcc ws ms f.toNat c.toNat (i + 1) = (rightAcc ws ms f.toNat c.toNat i ++ if i = f.toNat then ms else []) ++ (if i < f.toNat ∨ f.toNat + c.toNat ≤ i then ws[i]?.toList else []) := by
      unfold rightAcc
      rcases (by omega : i < f.toNat ∨ i = f.toNat ∨ f.toNat < i) with h | h | h
      · rw [if_pos (by omega), if_pos (by omega), if_neg (by omega), if_pos (.inl h), List.append_nil, List.take_add_one]
      · rw [if_neg (by omega), if_pos (by omega), if_pos h, take_drop_succ]
        have e0 : (ws.take i).drop (f.toNat + c.toNat) = [] := List.drop_eq_nil_of_le (by rw [List.length_take]; omega)
        rw [e0, List.nil_append, h]
        by_cases hc : f.toNat + c.toNat ≤ f.toNat
        · rw [if_pos hc, if_pos (.inr hc)]
        · rw [if_neg hc, if_neg (by omega)]
      · rw [if_neg (by omega), if_neg (by omega), if_neg (by omega), take_drop_succ, List.append_nil, ← List.append_assoc]
        by_cases hc : f.toNat + c.toNat ≤ i
        · rw [if_pos hc, if_pos (.inr hc)]
        · rw [if_neg hc, if_neg (by omega)]
    rw [hacc]
    generalize hg : (rightAcc ws ms f.toNat c.toNat i ++ if i = f.toNat then ms else []) = acc at e3
    have hal : acc.length ≤ 2 * ws.length + ms.length + ms.length := by
      rw [← hg, List.length_append]
      split <;> simp <;> omega
    refine if_go (cutT (fun k H' => H' = H3 ∧ (k = true → i < ws.length ∧ (i < f.toNat ∨ f.toNat + c.toNat ≤ i)) ∧ (k = false → ¬ (i < ws.length ∧ (i < f.toNat ∨ f.toNat + c.toNat ≤ i)))) (fun Q' k' => ?_) ?_)
    · refine ⟨_, rfl, _, rfl, w, _, rfl, .inl (s3 _ _ hw |> IL.seq), _, _, rfl, rfl, _, rfl, ?_⟩
      rw [List.length_map]
      by_cases c5 : 0 + (i : Int) < ws.length
      · rw [decide_eq_true c5]
        refine iteT ⟨_, rfl, _, rfl, _, _, rfl, rfl, _, rfl, ?_⟩
        by_cases c6 : f ≤ 0 + (i : Int)
        · rw [decide_eq_true c6]
          refine iteT ⟨_, rfl, _, rfl, _, _, rfl, rfl, _, _, rfl, rfl, _, rfl, ?_⟩
          by_cases c7 : 0 + (i : Int) < f + c
          · rw [decide_eq_true c7]
            exact k' _ _ ⟨rfl, (fun h => by cases h), fun _ => by omega⟩
          · rw [decide_eq_false c7]
            exact k' _ _ ⟨rfl, (fun _ => by omega), fun h => by cases h⟩
        · rw [decide_eq_false c6]
          exact iteF ⟨_, rfl, k' _ _ ⟨rfl, (fun _ => by omega), fun h => by cases h⟩⟩
      · rw [decide_eq_false c5]
        exact iteF (k' _ _ ⟨rfl, (fun h => by cases h), fun _ => by omega⟩)
    · rintro k H4 ⟨rfl, hk1, hk2⟩
      cases k with
      | true =>
        obtain ⟨g1, g2⟩ := hk1 rfl
        obtain ⟨z, hz1⟩ : ∃ z, ws[i]? = some z := ⟨_, List.getElem?_eq_getElem g1⟩
        refine iteT ⟨_, rfl, .inl ⟨rfl, _, e3.seq⟩, _, rfl, _, rfl, w, _, _, _, rfl, rfl, (s3 _ _ hw |> IL.seq), atI_int (atI_nn (by omega) (by rw [show (0 + (i : Int)).toNat = i by omega]; exact hz1)), ?_⟩
        refine ⟨pd3, _, _, rfl, rfl, e3, by rw [List.length_map]; omega, ?_⟩
        refine ⟨pd3, _, _, _, rfl, npd3, same_mut s3 npd3, ?_⟩
        rw [if_pos g2, hz1]
        show upd _ _ _ _ = _
        rw [upd_same, ints_push]
        rfl
      | false =>
        refine iteF ⟨pd3, _, _, _, rfl, npd3, s3, ?_⟩
        have h := hk2 rfl
        have e0 : (if i < f.toNat ∨ f.toNat + c.toNat ≤ i then ws[i]?.toList else []) = [] := by
          split
          · next h2 =>
            rw [List.getElem?_eq_none (by omega)]
            rfl
          · rfl
        rw [e0, List.append_nil]
        exact e3
  rintro σ H2 ⟨pd, j6, j7, j8, rfl, npd, s2, e2⟩
  have hT : rightAcc ws ms f.toNat c.toNat (((ws.length + 1 : Nat) : Int)).toNat = ws.take f.toNat ++ ms ++ ws.drop (f.toNat + c.toNat) := by
    rw [hN]
    unfold rightAcc
    rw [if_neg (show ¬ ws.length + 1 ≤ f.toNat by omega), List.take_of_length_le (show ws.length ≤ ws.length + 1 by omega)]
  rw [hT] at e2
  generalize hTg : ws.take f.toNat ++ ms ++ ws.drop (f.toNat + c.toNat) = T at e2
  have hTl : T.length ≤ 300 + 5000 + 300 := by
    rw [← hTg, List.length_append, List.length_append, List.length_take, List.length_drop]
    omega
  have hTb : ∀ m ∈ T, 1 ≤ m ∧ m ≤ 2000 := by
    intro m hm'
    rw [← hTg] at hm'
    rcases List.mem_append.mp hm' with h | h
    · rcases List.mem_append.mp h with h | h
      · have h1 := ht.2.1 m (List.take_subset _ _ h)
        have h2 := ht.le m (List.take_subset _ _ h)
        omega
      · exact hms m h
    · have h1 := ht.2.1 m (List.drop_subset _ _ h)
      have h2 := ht.le m (List.drop_subset _ _ h)
      omega
  have hTx : Txt' T ↔ T ≠ [] ∧ total T ≤ 600 := ⟨fun h => ⟨h.1, h.2.2⟩, fun h => ⟨h.1, fun m hm' => (hTb m hm').1, h.2⟩⟩
  dsimp only
  refine sq_set ?_
  refine cutE (fun v H' => Same H2 H' ∧ ((Txt' T ∧ v = .ref pd) ∨ (¬ Txt' T ∧ v = .str "lengths"))) (fun Q' k' => ?_) ?_
  · show tIf _ _ _ _ _ _
    refine ⟨_, rfl, Nat.zero_le _, fun q1 n1 => ⟨_, .list (([] : List Int).map .int), dp_ints (e2.new n1), dp_ints (ns := []) upd_same, shaped_ints _, shaped_ints _, _, rfl, ?_⟩⟩
    rw [eqvL]
    by_cases g1 : T = []
    · rw [decide_eq_true g1]
      exact iteF (iteF (k' _ _ ⟨same_new n1, .inr ⟨fun h => (hTx.mp h).1 g1, rfl⟩⟩))
    · rw [decide_eq_false g1]
      refine iteT ⟨_, rfl, pd, T, rfl, (e2.new n1).seq, _, _, rfl, rfl, _, rfl, ?_⟩
      by_cases g2 : total T ≤ 600
      · rw [decide_eq_true g2]
        exact iteT ⟨_, rfl, k' _ _ ⟨same_new n1, .inl ⟨hTx.mpr ⟨g1, g2⟩, rfl⟩⟩⟩
      · rw [decide_eq_false g2]
        exact iteF (k' _ _ ⟨same_new n1, .inr ⟨fun h => g2 (hTx.mp h).2, rfl⟩⟩)
  rintro dv H3 ⟨s3, hdv⟩
  have s23 := s2.trans s3
  have e3 := e2.same s3
  have ndt : ∀ {h : Txt' T}, Nc (2002 * 300 + 3) 1 (.list (T.map .int)) := fun {h} => Nc.ints h.len h.small
  -- for is_named in [False, True]
  refine ⟨(by show 2 ≤ sizeLine; decide), fun fl nfl => ⟨fl, rfl, ⟨_, .inl (.inl upd_same)⟩, ?_⟩⟩
  have efl : (upd H3 fl (.lst [.bl false, .bl true])) fl = some (.lst [.bl false, .bl true]) := upd_same
  have s33 : Same H3 (upd H3 fl (.lst [.bl false, .bl true])) := same_new nfl
  generalize (upd H3 fl (.lst [.bl false, .bl true])) = H4 at efl s33
  refine for_list (xs := [.bl false, .bl true]) (fun i σ H' => ∃ j6 j7 j8, σ = [some (.ref w), some (.int f), some (.int c), some (.ref b), some dv, some (.str (PyData.list [.list (ws.map .int), .list (ms.map .int)]).shown), j6, j7, j8] ∧ Same H4 H') ⟨_, _, _, rfl, Same.refl _⟩ (fun i σ H' _ ⟨_, _, _, _, s⟩ => .inl (.inl (s _ _ efl))) ?_ ?_
  · rintro i x σ H5 hx ⟨j6, j7, j8, rfl, s5⟩
    obtain ⟨k, rfl⟩ : ∃ k, x = .bl k := by
      match i, hx with
      | 0, hx => exact ⟨false, (Option.some.inj hx).symm⟩
      | 1, hx => exact ⟨true, (Option.some.inj hx).symm⟩
      | n + 2, hx => cases hx
    have s35 := s33.trans s5
    have sH5 := s23.trans s35
    refine sq_set ?_
    refine cutE (fun v H' => Same H5 H' ∧ ((Txt' T ∧ ∃ fp, v = .ref fp ∧ H5 fp = Option.none ∧ IL H' fp T) ∨ (¬ Txt' T ∧ v = .str "lengths"))) (fun Q' k' => ?_) ?_
    · refine ⟨_, rfl, _, rfl, _, rfl, _, rfl, _, rfl, w, b, ws, ms, f, c, k, rfl, hw.same sH5, ht, hb.same sH5, hm, f1, f2, c1, c2, ?_, ?_⟩
      · rw [hTg]
        exact fun h fp H' n s e => k' _ _ ⟨s, .inl ⟨h, fp, rfl, n, e⟩⟩
      · rw [hTg]
        exact fun h H' s => k' _ _ ⟨s, .inr ⟨h, rfl⟩⟩
    rintro fv H6 ⟨s6, hfv⟩
    have sH6 := sH5.trans s6
    refine sq_no (fun H' => Same H6 H') (fun Q' k' => ?_) ?_
    · refine or_no (fun H' => Same H6 H') (fun Q' k' => ?_) ?_
      · refine ⟨_, rfl, _, rfl, ?_⟩
        rcases hdv with ⟨h, rfl⟩ | ⟨h, rfl⟩
        · rcases hfv with ⟨_, fp, rfl, _, efp⟩ | ⟨h2, _⟩
          · have n := ndt (h := h)
            exact ⟨_, _, _, rfl, dp_ints efp, dp_ints ((e3.same s35).same s6), n.cl, Nat.le_trans n.dp (by decide), fun _ _ => trivial, fun H' s' => ⟨_, rfl, k' _ s'⟩⟩
          · exact (h2 h).elim
        · rcases hfv with ⟨h2, _⟩ | ⟨_, rfl⟩
          · exact (h h2).elim
          · exact ⟨_, _, _, rfl, .str _, .str _, by decide +kernel, by simp [PyData.depth], fun _ _ => trivial, fun H' s' => ⟨_, rfl, k' _ s'⟩⟩
      · intro H' s'
        refine tt_go (op_go (cb1 ⟨_, rfl, _, rfl, (by show 2 ≤ sizeLine; decide), fun p2 np2 => nWM.repr (.lst (.inl (.inl upd_same)) (.cons (dp_ints (((hw.same sH6).same s').new np2)) (.cons (dp_ints (((hb.same sH6).same s').new np2)) .nil))) (by decide) (by decide) ⟨_, rfl, rfl, _, rfl, ?_⟩⟩))
        rw [neF rfl]
        exact k' _ (s'.trans (same_new np2))
    intro H7 s7
    have sH7 := sH6.trans s7
    have s47 : Same H4 H7 := (s5.trans s6).trans s7
    rcases hfv with ⟨h, fp, rfl, nfp, efp⟩ | ⟨h, rfl⟩
    · have n := ndt (h := h)
      have efp7 := efp.same s7
      have nfH : H4 fp = Option.none := fresh_of s5 nfp
      refine if_go ⟨_, rfl, _, .str "lengths", dp_ints efp7, .str _, n.shaped (by decide), by decide +kernel, _, rfl, ?_⟩
      have e0 : PyData.eqv (.list (T.map .int)) (.str "lengths") = false := by simp [PyData.eqv]
      rw [e0]
      refine iteT ⟨_, rfl, .inl ⟨rfl, _, efp7.seq⟩, fp, _, _, rfl, rfl, efp7, by rw [List.length_map]; omega, ?_⟩
      exact ⟨_, _, _, rfl, same_mut s47 nfH⟩
    · refine if_go ⟨_, rfl, _, _, .str "lengths", .str "lengths", by decide +kernel, by decide +kernel, _, rfl, ?_⟩
      have e0 : PyData.eqv (.str "lengths") (.str "lengths") = true := by simp [PyData.eqv]
      rw [e0]
      exact iteF ⟨_, _, _, rfl, s47⟩
  · rintro σ H' ⟨j6, j7, j8, rfl, s⟩
    exact q _ ((s23.trans s33).trans s)
theorem ok_law {f : Addr} {fd : FuncData} (F : FnP K "law" (top 23) [] f fd) (W : Wd K mg) (c__law_right : CalG P w K mg base 10 "_law_right" ["plan", "at", "many", "more"] (sp__law_right K)) (c_replace_words : Cal P w K mg base (L2.CX P w) 5 "replace_words" ["text", "first", "count", "words"] [] (sp_replace_words K)) (c__law_span : Cal P w K mg base CX0 1 "_law_span" ["sizes"] [] (sp__law_span K)) (c__law_draw : Cal P w K mg base CX0 1 "_law_draw" ["deck", "many"] [] (sp__law_draw K)) (c__law_plan : Cal P w K mg base CX0 2 "_law_plan" ["deck", "most", "longest"] [] (sp__law_plan K)) (c__law_deck : Cal P w K mg base CX0 1 "_law_deck" ["script"] [] (sp__law_deck K)) : FnG P w K mg base 11 f fd ["script"] (sp_law K) := by
  refine fnG_of F sc_law (fun vs H Q E h => ?len) (fun cdv A outer s H vs Q E hgd hr h => ?_)
  case len =>
    obtain ⟨a, ns, rfl, _⟩ := h
    rfl
  refine ⟨_, (pss_cons (ps_set (i := 1) sc_law.nd rfl (.inr rfl) (pe_cal c__law_deck (hr.mono (by decide)) pass0 (pa_cons (pv 0) pa_nil)))
  (pss_cons (ps_for PassesOwn.never rfl (pi_range1 (by rfl) W.n_range (pa_cons pe_int pa_nil)) (pg_name (i := 2) sc_law.nd rfl (Or.inl rfl))
  (pss_cons (ps_set (i := 3) sc_law.nd rfl (.inl rfl) (pe_cal c__law_plan (hr.mono (by decide)) pass0 (pa_cons (pv 1) (pa_cons (pe_ix ix_list (pe_lst (pa_cons pe_int (pa_cons pe_int pa_nil))) (pe_cal c__law_draw (hr.mono (by decide)) pass0 (pa_cons (pv 1) (pa_cons pe_int pa_nil))) (fun _ _ => rfl)) (pa_cons (pe_ix ix_list (pe_lst (pa_cons pe_int (pa_cons pe_int pa_nil))) (pe_cal c__law_draw (hr.mono (by decide)) pass0 (pa_cons (pv 1) (pa_cons pe_int pa_nil))) (fun _ _ => rfl)) pa_nil)))))
  (pss_cons (ps_set (i := 4) sc_law.nd rfl (.inl rfl) (pe_cal c__law_draw (hr.mono (by decide)) pass0 (pa_cons (pv 1) (pa_cons (pe_op op_add (pe_callB call_len_seq (by rfl) W.n_len (by decide +kernel) (pa_cons (pv 3) pa_nil)) pe_int) pa_nil))))
  (pss_cons (ps_set (i := 5) sc_law.nd rfl (.inl rfl) (pe_ix ix_list (pe_lst (pa_cons pe_int (pa_cons (pe_cal c__law_draw (hr.mono (by decide)) pass0 (pa_cons (pv 1) (pa_cons (pe_op op_add (pe_op op_sub (pe_callB call_len_seq (by rfl) W.n_len (by decide +kernel) (pa_cons (pv 3) pa_nil)) (pv 4)) pe_int) pa_nil))) (pa_cons (pe_op op_sub (pe_callB call_len_seq (by rfl) W.n_len (by decide +kernel) (pa_cons (pv 3) pa_nil)) (pv 4)) pa_nil)))) (pe_cal c__law_draw (hr.mono (by decide)) pass0 (pa_cons (pv 1) (pa_cons pe_int pa_nil))) (fun _ _ => rfl)))
  (pss_cons (ps_set (i := 6) sc_law.nd rfl (.inl rfl) (pe_op op_add pe_int (pe_cal c__law_draw (hr.mono (by decide)) pass0 (pa_cons (pv 1) (pa_cons (pe_ix ix_list (pe_lst (pa_cons pe_int (pa_cons pe_int pa_nil))) (pe_cal c__law_draw (hr.mono (by decide)) pass0 (pa_cons (pv 1) (pa_cons pe_int pa_nil))) (fun _ _ => rfl)) pa_nil)))))
  (pss_cons (ps_setLc (i := 7) (own := [("step", 10)]) (g := (gName 10)) (by rfl) sc_law.nd rfl rfl (sw_true rfl rfl rfl (by decide +kernel)) (pi_range1 (by rfl) W.n_range (pa_cons (pe_op op_sub (pv 6) pe_int) pa_nil)) (blkOk_by (own := [("step", 10)]) (N := ["script", "deck", "turn", "plan", "at", "many", "some", "more", "room", "letters", "step"]) (sc := defScope (top 23)) (by decide +kernel)) (fun _ _ _ _ _ => (pg_name (i := 10) sc_law.nd rfl (Or.inl rfl))) (fun _ _ _ _ _ => pts_nil) (fun _ _ _ _ _ => (pe_op op_add pe_int (pe_cal c__law_draw (hr.mono (by decide)) pass0 (pa_cons (pv 1) (pa_cons (pe_ix (kIx (K := K) rfl) (pe_lst (pa_cons pe_int (pa_cons pe_int (pa_cons pe_int pa_nil)))) (pe_cal c__law_draw (hr.mono (by decide)) pass0 (pa_cons (pv 1) (pa_cons pe_int pa_nil))) (fun _ _ => rfl)) pa_nil))))))
  (pss_cons (ps_if (pt_not (pt_val (pe_calG c__law_right hgd (hr.mono (by decide)) (pa_cons (pv 3) (pa_cons (pv 4) (pa_cons (pv 5) (pa_cons (pv 7) pa_nil))))))) (pss_one (ps_ret pe_bl)) pss_nil)
  (pss_cons (ps_set (i := 8) sc_law.nd rfl (.inl rfl) (pe_op op_sub (pe_op op_sub pe_int (pe_cal c__law_span (hr.mono (by decide)) pass0 (pa_cons (pv 3) pa_nil))) pe_int))
  (pss_one (ps_for PassesOwn.never rfl (pi_list (pe_op op_rep (pe_lst (pa_cons (pv 8) (pa_cons (pe_op op_add (pv 8) pe_int) pa_nil))) (pe_callTy call_int1 (by rfl) W.n_int (by decide +kernel) (pa_cons (pe_cmpR op_gt (pv 8) pe_int (nomark _)) pa_nil)))) (pg_name (i := 9) sc_law.nd rfl (Or.inl rfl))
  (pss_one (ps_if (pt_not (pt_val (pe_calG c__law_right hgd (hr.mono (by decide)) (pa_cons (pv 3) (pa_cons (pv 4) (pa_cons pe_int (pa_cons (pe_lst (pa_cons (pv 9) pa_nil)) pa_nil))))))) (pss_one (ps_ret pe_bl)) pss_nil))))))))))))
  (pss_one (ps_ret (pe_and (pe_cmpR (op_eqD hr.units) (pe_cal c_replace_words (hr.mono (by decide)) passL (pa_cons (pe_lst (pa_cons pe_int (pa_cons pe_int (pa_cons pe_int pa_nil)))) (pa_cons pe_int (pa_cons pe_int (pa_cons (pe_lst (pa_cons pe_int (pa_cons pe_int pa_nil))) pa_nil))))) (pe_lst (pa_cons pe_int (pa_cons pe_int (pa_cons pe_int (pa_cons pe_int pa_nil))))) (nomark _)) (pe_one (pe_calG c__law_right hgd (hr.mono (by decide)) (pa_cons (pe_lst (pa_cons pe_int pa_nil)) (pa_cons pe_int (pa_cons pe_int (pa_cons (pe_lst pa_nil) pa_nil))))))))))), ?_⟩
  obtain ⟨a, ns, rfl, hS, hl, _, q⟩ := h
  have hz : sizeLine = 16777216 := by decide
  refine sq_set ⟨_, rfl, a, ns, rfl, hS, hl, fun b qs H0 hfr s0 D0 => ?_⟩
  refine ⟨10, rfl, by decide, by decide, ?_⟩
  refine for_range (lo := 0) (n := 10) (fun i σ H' => ∃ j2 j3 j4 j5 j6 j7 j8 j9 j10, σ = [some (.ref a), some (.ref b), j2, j3, j4, j5, j6, j7, j8, j9, j10] ∧ Same H H' ∧ Deck H' b qs (20000 * i))
    ⟨_, _, _, _, _, _, _, _, _, rfl, s0, D0⟩ ?_ ?_
  case refine_2 =>
    rintro σ H' ⟨j2, j3, j4, j5, j6, j7, j8, j9, j10, rfl, s, _⟩
    dsimp only
    have t312 : Txt' [3, 1, 2] := ⟨by simp, by decide, by decide⟩
    have t5 : Txt' [5] := ⟨by simp, by decide, by decide⟩
    have tn : Txt' [3, 4, 4, 2] := ⟨by simp, by decide, by decide⟩
    refine rt_ret ?_
    refine ⟨(by show 3 ≤ sizeLine; decide), fun p1 n1 => ⟨(by show 2 ≤ sizeLine; decide), fun p2 n2 => ?_⟩⟩
    have w1 : IL (upd H' p1 (.lst [.int 3, .int 1, .int 2])) p1 [3, 1, 2] := upd_same
    have w2 : IL (upd (upd H' p1 (.lst [.int 3, .int 1, .int 2])) p2 (.lst [.int 4, .int 4])) p2 [4, 4] := upd_same
    have eT : [3, 1, 2].take (1 : Int).toNat ++ [4, 4] ++ [3, 1, 2].drop ((1 : Int).toNat + (1 : Int).toNat) = ([3, 4, 4, 2] : List Int) := by decide
    refine replace_words_of (w1.new n2).seq t312 w2 (by decide) (by decide) (by decide) (by decide) (by decide) ?_ ?_
    · rw [eT]
      intro _ p H2 n s2 e2
      refine ⟨(by show 4 ≤ sizeLine; decide), fun p3 n3 => ?_⟩
      have w3 : IL (upd H2 p3 (.lst [.int 3, .int 4, .int 4, .int 2])) p3 [3, 4, 4, 2] := upd_same
      refine (Nc.ints (n := 4) (ns := [3, 4, 4, 2]) (by decide) (ints_small (B := 1000) (by decide) (by decide))).eqD (dp_ints (e2.new n3)) (dp_ints w3) (by decide) ⟨_, rfl, ?_⟩
      refine iteT ⟨(by show 1 ≤ sizeLine; decide), fun p4 n4 => ⟨Nat.zero_le _, fun p5 n5 => ?_⟩⟩
      have w4 : IL (upd (upd H2 p3 (.lst [.int 3, .int 4, .int 4, .int 2])) p4 (.lst [.int 5])) p4 [5] := upd_same
      exact ⟨p4, p5, [5], [], 0, 1, rfl, w4.new n5, t5, upd_same, by decide, (fun m hm => by cases hm), by decide, by decide, by decide, by decide, fun H3 s3 => q _⟩
    · rw [eT]
      intro h
      exact (h tn).elim
  rintro i0 σ H1 hi0 ⟨j2, j3, j4, j5, j6, j7, j8, j9, j10, rfl, s1, D1⟩
  -- plan
  refine sq_set ⟨_, rfl, (by show 2 ≤ sizeLine; decide), fun t1 n1 => ⟨_, rfl, b, qs, _, 2, rfl, D1.new n1, by omega, by decide, by decide, fun r1 H2 r10 r11 D2 s2 => ?_⟩⟩
  have e1 : H2 t1 = some (.lst [.int 12, .int 200]) := s2.at (D1.fresh n1) upd_same
  have s12 : Same H H2 := SameS.all (s1.trans (same_new n1)) hfr s2
  obtain ⟨mo, hmo, mo1, mo2⟩ : ∃ mo : Int, atI [V.int 12, V.int 200] r1 = some (.int mo) ∧ 1 ≤ mo ∧ mo ≤ 1000 := by
    have : r1 = 0 ∨ r1 = 1 := by omega
    rcases this with rfl | rfl
    · exact ⟨12, rfl, by decide, by decide⟩
    · exact ⟨200, rfl, by decide, by decide⟩
  refine ⟨t1, _, _, _, rfl, rfl, .inl (.inl e1), hmo, (by show 2 ≤ sizeLine; decide), fun t2 n2 => ⟨_, rfl, b, qs, _, 2, rfl, D2.new n2, by omega, by decide, by decide, fun r2 H3 r20 r21 D3 s3 => ?_⟩⟩
  have e2 : H3 t2 = some (.lst [.int 9, .int 100]) := s3.at (D2.fresh n2) upd_same
  have s13 : Same H H3 := SameS.all (s12.trans (same_new n2)) hfr s3
  obtain ⟨lo, hlo, lo1, lo2⟩ : ∃ lo : Int, atI [V.int 9, V.int 100] r2 = some (.int lo) ∧ 1 ≤ lo ∧ lo ≤ 600 := by
    have : r2 = 0 ∨ r2 = 1 := by omega
    rcases this with rfl | rfl
    · exact ⟨9, rfl, by decide, by decide⟩
    · exact ⟨100, rfl, by decide, by decide⟩
  refine ⟨t2, _, _, _, rfl, rfl, .inl (.inl e2), hlo, b, qs, _, mo, lo, rfl, D3, by omega, mo1, mo2, lo1, lo2, fun w ws H4 nw s4 D4 ew ht => ?_⟩
  have hwS : w ∉ b :: qs := D3.fresh nw
  have hlen := ht.len
  have hlen1 : 1 ≤ ws.length := List.length_pos_iff.mpr ht.1
  have s14 : Same H H4 := SameS.all s13 hfr s4
  clear e1 e2 hmo hlo n1 n2 s12 s13 D2 D3 s2 s3 s4 nw
  -- at
  refine sq_set ⟨_, rfl, _, rfl, w, _, rfl, .inl ew.seq, _, _, rfl, rfl, b, qs, _, _, rfl, D4, by omega, by rw [List.length_map]; omega, by rw [List.length_map]; omega, fun at_ H5 at1 at2 D5 s5 => ?_⟩
  rw [List.length_map] at at2
  have ew5 : IL H5 w ws := s5.il hwS ew
  have s15 : Same H H5 := SameS.all s14 hfr s5
  -- many
  refine sq_set ⟨_, rfl, _, rfl, w, _, rfl, .inl ew5.seq, _, rfl, _, _, rfl, rfl, _, _, rfl, rfl, b, qs, _, _, rfl, D5, by omega, by rw [List.length_map]; omega, by rw [List.length_map]; omega, fun mv H6 mv1 mv2 D6 s6 => ?_⟩
  rw [List.length_map] at mv2
  have ew6 : IL H6 w ws := s6.il hwS ew5
  have s16 : Same H H6 := SameS.all s15 hfr s6
  refine ⟨_, rfl, w, _, rfl, .inl ew6.seq, _, rfl, _, _, rfl, rfl, (by show 3 ≤ sizeLine; decide), fun t3 n3 => ⟨_, rfl, b, qs, _, 3, rfl, D6.new n3, by omega, by decide, by decide, fun r3 H7 r30 r31 D7 s7 => ?_⟩⟩
  have e3 : H7 t3 = some (.lst [.int 0, .int mv, .int (ws.length - at_)]) := by
    have h := s7.at (D6.fresh n3) (upd_same (H := H6) (a := t3) (o := .lst [.int 0, .int mv, .int (((iV ws).length : Int) - at_)]))
    rw [List.length_map] at h
    exact h
  have ew7 : IL H7 w ws := s7.il hwS (ew6.new n3)
  have s17 : Same H H7 := SameS.all (s16.trans (same_new n3)) hfr s7
  obtain ⟨ma, hma, ma1, ma2⟩ : ∃ ma : Int, atI [V.int 0, V.int mv, V.int (ws.length - at_)] r3 = some (.int ma) ∧ 0 ≤ ma ∧ ma ≤ ws.length - at_ := by
    have : r3 = 0 ∨ r3 = 1 ∨ r3 = 2 := by omega
    rcases this with rfl | rfl | rfl
    · exact ⟨0, rfl, by decide, by omega⟩
    · exact ⟨mv, rfl, mv1, by omega⟩
    · exact ⟨_, rfl, by omega, by omega⟩
  refine ⟨t3, _, _, _, rfl, rfl, .inl (.inl e3), hma, ?_⟩
  clear e3 hma n3 s16 D6 s6 ew6 D5 s5 s15 ew5 D4 s14 ew
  dsimp only
  -- some
  refine sq_set (op_go ⟨_, rfl, (by show 2 ≤ sizeLine; decide), fun t4 n4 => ⟨_, rfl, b, qs, _, 2, rfl, D7.new n4, by omega, by decide, by decide, fun r4 H8 r40 r41 D8 s8 => ?_⟩⟩)
  have e4 : H8 t4 = some (.lst [.int 9, .int 101]) := s8.at (D7.fresh n4) upd_same
  have ew8 : IL H8 w ws := s8.il hwS (ew7.new n4)
  have s18 : Same H H8 := SameS.all (s17.trans (same_new n4)) hfr s8
  obtain ⟨mn, hmn, mn1, mn2⟩ : ∃ mn : Int, atI [V.int 9, V.int 101] r4 = some (.int mn) ∧ 1 ≤ mn ∧ mn ≤ 101 := by
    have : r4 = 0 ∨ r4 = 1 := by omega
    rcases this with rfl | rfl
    · exact ⟨9, rfl, by decide, by decide⟩
    · exact ⟨101, rfl, by decide, by decide⟩
  refine ⟨t4, _, _, _, rfl, rfl, .inl (.inl e4), hmn, b, qs, _, mn, rfl, D8, by omega, mn1, by omega, fun r5 H9 r50 r51 D9 s9 => ⟨_, _, rfl, rfl, ?_⟩⟩
  have ew9 : IL H9 w ws := s9.il hwS ew8
  have s19 : Same H H9 := SameS.all s18 hfr s9
  clear e4 hmn n4 s18 D8 s8 ew8 D7 s7 s17 ew7 s9
  -- more
  refine ⟨_, rfl, _, _, rfl, rfl, r5, ?_, by omega, by omega, fun D nD => ?_⟩
  · show [V.int (1 + r5 - 1)] = [V.int r5]
    congr 2
    omega
  have hDS := D9.fresh nD
  refine lc_genR (lo := 0) (n := r5.toNat) (fun i acc H' => ∃ wl : List Int, acc = iV wl ∧ wl.length = i ∧ (∀ v ∈ wl, 1 ≤ v ∧ v ≤ 2000) ∧ Deck H' b qs (20000 * i0 + 6000 + 2 * i) ∧ SameS (b :: qs) H9 H') (by omega) ⟨[], rfl, rfl, (fun v hv => by cases hv), (D9.new nD).mono (by omega), SameS.of (same_new nD)⟩ ?_ ?_
  · rintro i acc H' hi3 hacc ⟨wl, rfl, hwl, hw, D', b'⟩ eD Q' k2
    refine ⟨_, rfl, (by show 3 ≤ sizeLine; decide), fun t5 n5 => ⟨_, rfl, b, qs, _, 3, rfl, D'.new n5, by omega, by decide, by decide, fun v1 HA v10 v11 DA sA => ?_⟩⟩
    have e5 : HA t5 = some (.lst [.int 2, .int 9, .int 600]) := sA.at (D'.fresh n5) upd_same
    obtain ⟨mx, hmx, mx1, mx2⟩ : ∃ mx : Int, atI [V.int 2, V.int 9, V.int 600] v1 = some (.int mx) ∧ 1 ≤ mx ∧ mx ≤ 600 := by
      have : v1 = 0 ∨ v1 = 1 ∨ v1 = 2 := by omega
      rcases this with rfl | rfl | rfl
      · exact ⟨2, rfl, by decide, by decide⟩
      · exact ⟨9, rfl, by decide, by decide⟩
      · exact ⟨600, rfl, by decide, by decide⟩
    refine ⟨t5, _, _, _, rfl, rfl, .inl (.inl e5), hmx, b, qs, _, mx, rfl, DA, by omega, mx1, by omega, fun v2 HB v20 v21 DB sB => ⟨_, _, rfl, rfl, ?_⟩⟩
    have eDB : HB D = some (.lst (iV wl)) := sB.at hDS (sA.at hDS (at_new eD n5))
    refine k2 _ _ eDB ⟨wl ++ [1 + v2], by simp, by simp [hwl], ?_, ?_, ?_⟩
    · intro u hu
      rcases List.mem_append.mp hu with hu | hu
      · exact hw u hu
      · rw [List.mem_singleton.mp hu]
        omega
    · show Deck _ b qs (20000 * i0 + 6000 + 2 * (i + 1))
      exact (DB.mut hDS).mono (by omega)
    · exact (((b'.trans (SameS.of (same_new n5))).trans sA).trans sB).mut nD
  rintro acc HC hacc ⟨ml, rfl, hml, hm, DC, bC⟩ eD
  have ewC : IL HC w ws := bC.il hwS ew9
  have eDC : IL HC D ml := eD
  have s1C : Same H HC := SameS.all s19 hfr bC
  clear bC eD hacc D9 s19 ew9
  refine gn_go ?_
  dsimp only
  refine sq_no (fun H' => Same HC H') (fun Q' k' => ?_) ?_
  · exact ⟨_, rfl, _, rfl, _, rfl, _, rfl, w, D, ws, ml, at_, ma, rfl, ewC, ht, eDC, by omega, hm, at1, by omega, ma1, ma2, fun H' s' => ⟨_, rfl, k' _ s'⟩⟩
  intro HD sD
  have ewD := ewC.same sD
  have DD := DC.same sD
  have s1D := s1C.trans sD
  -- room
  refine sq_set ⟨_, rfl, w, ws, rfl, ewD.seq, _, _, rfl, rfl, _, _, rfl, rfl, ?_⟩
  dsimp only
  have htot : total ws ≤ 600 := ht.2.2
  have htot1 : 1 ≤ total ws := by
    have h1 := total_nonneg_len ws ht.2.1
    unfold total
    omega
  generalize hroom : 600 - total ws - 1 = room
  refine ⟨_, rfl, _, rfl, _, _, rfl, rfl, (by show 2 ≤ sizeLine; decide), fun p1 n1 => ?_⟩
  have e1 : (upd HD p1 (.lst [.int room, .int (room + 1)])) p1 = some (.lst [.int room, .int (room + 1)]) := upd_same
  have sE := same_new (u := .lst [.int room, .int (room + 1)]) n1
  generalize (upd HD p1 (.lst [.int room, .int (room + 1)])) = HE at e1 sE
  refine ⟨_, rfl, _, _, rfl, rfl, .inr ⟨_, rfl, ?_⟩⟩
  generalize hkk : (if decide (0 < room) = true then (1 : Int) else 0) = kk
  have hkk2 : kk = 0 ∨ (kk = 1 ∧ 0 < room) := by
    by_cases c : 0 < room
    · rw [if_pos (decide_eq_true c)] at hkk
      exact .inr ⟨hkk.symm, c⟩
    · rw [if_neg (by rw [decide_eq_false c]; decide)] at hkk
      exact .inl hkk.symm
  refine ⟨p1, kk, _, rfl, rfl, e1, by omega, by omega, ?_, fun p2 n2 => ?_⟩
  · rcases hkk2 with rfl | ⟨rfl, _⟩ <;> (show 2 * _ ≤ sizeLine; rw [hz]; decide)
  obtain ⟨xs, hxs, hxb⟩ : ∃ xs : List Int, (List.replicate kk.toNat [V.int room, V.int (room + 1)]).flatten = iV xs ∧ ∀ x ∈ xs, 1 ≤ x ∧ x ≤ 2000 := by
    rcases hkk2 with rfl | ⟨rfl, hr⟩
    · exact ⟨[], rfl, fun x hx => by cases hx⟩
    · refine ⟨[room, room + 1], rfl, fun x hx => ?_⟩
      simp at hx
      omega
  rw [hxs]
  have sF := sE.trans (same_new (u := .lst (iV xs)) n2)
  have e2 : (upd HE p2 (.lst (iV xs))) p2 = some (.lst (iV xs)) := upd_same
  generalize (upd HE p2 (.lst (iV xs))) = HF at sF e2
  refine ⟨p2, rfl, ⟨_, .inl (.inl e2)⟩, ?_⟩
  refine for_list (xs := iV xs) (fun i σ H' => ∃ j9 j10, σ = [some (.ref a), some (.ref b), some (.int (0 + (i0 : Int))), some (.ref w), some (.int at_), some (.int ma), some (.int (1 + r5)), some (.ref D), some (.int room), j9, j10] ∧ Same HF H') ⟨_, _, rfl, Same.refl _⟩ (fun i σ H' _ ⟨_, _, _, s⟩ => .inl (.inl (s _ _ e2))) ?_ ?_
  case refine_2 =>
    rintro σ H' ⟨j9, j10, rfl, s⟩
    exact ⟨_, _, _, _, _, _, _, _, _, rfl, (s1D.trans sF).trans s, ((DD.same sF).same s).mono (by omega)⟩
  rintro i1 x σ H' hx ⟨j9', j10', rfl, s⟩
  obtain ⟨lt_, hlt, rfl⟩ := ints_get hx
  obtain ⟨lt1, lt2⟩ := hxb lt_ (List.mem_of_getElem? hlt)
  refine gn_go ?_
  refine if_no (fun H2 => Same HF H2) (fun Q' k' => ?_) (fun H2 s2 => ⟨_, _, rfl, s2⟩)
  refine ⟨_, rfl, _, rfl, _, rfl, (by show 1 ≤ sizeLine; decide), fun p3 n3 => ?_⟩
  have el : IL (upd H' p3 (.lst [.int lt_])) p3 [lt_] := upd_same
  exact ⟨w, p3, ws, [lt_], at_, 0, rfl, ((ewD.same sF).same s).new n3, ht, el, (by show 1 ≤ 5000; decide), (fun m hm' => by rw [List.mem_singleton.mp hm']; exact ⟨lt1, lt2⟩), at1, by omega, by decide, by omega, fun H2 s2 => ⟨_, rfl, k' _ ((s.trans (same_new n3)).trans s2)⟩⟩
end
/-! ### the head: facts by names -/
def d_is_integer : He.DefD := ⟨("is_integer", none), "is_integer", "is_integer", defArgs (top 8), defBody (top 8), defScope (top 8), [.non], []⟩
def d_total_of : He.DefD := ⟨("total_of", none), "total_of", "total_of", defArgs (top 9), defBody (top 9), defScope (top 9), [], []⟩
def d_are_lengths : He.DefD := ⟨("are_lengths", none), "are_lengths", "are_lengths", defArgs (top 10), defBody (top 10), defScope (top 10), [], []⟩
def d_is_text : He.DefD := ⟨("is_text", none), "is_text", "is_text", defArgs (top 11), defBody (top 11), defScope (top 11), [], []⟩
def d_require_text : He.DefD := ⟨("require_text", none), "require_text", "require_text", defArgs (top 12), defBody (top 12), defScope (top 12), [], []⟩
def d_replace_words : He.DefD := ⟨("replace_words", none), "replace_words", "replace_words", defArgs (top 14), defBody (top 14), defScope (top 14), [], []⟩
def d__law_deck : He.DefD := ⟨("_law_deck", none), "_law_deck", "_law_deck", defArgs (top 16), defBody (top 16), defScope (top 16), [], []⟩
def d__law_draw : He.DefD := ⟨("_law_draw", none), "_law_draw", "_law_draw", defArgs (top 17), defBody (top 17), defScope (top 17), [], []⟩
def d__law_same : He.DefD := ⟨("_law_same", none), "_law_same", "_law_same", defArgs (top 18), defBody (top 18), defScope (top 18), [], []⟩
def d__law_span : He.DefD := ⟨("_law_span", none), "_law_span", "_law_span", defArgs (top 19), defBody (top 19), defScope (top 19), [], []⟩
def d__law_plan : He.DefD := ⟨("_law_plan", none), "_law_plan", "_law_plan", defArgs (top 20), defBody (top 20), defScope (top 20), [], []⟩
def d__law_told : He.DefD := ⟨("_law_told", none), "_law_told", "_law_told", defArgs (top 21), defBody (top 21), defScope (top 21), [], []⟩
def d__law_right : He.DefD := ⟨("_law_right", none), "_law_right", "_law_right", defArgs (top 22), defBody (top 22), defScope (top 22), [], []⟩
def d_law : He.DefD := ⟨("law", none), "law", "law", defArgs (top 23), defBody (top 23), defScope (top 23), [], []⟩
def fn : List He.DefD := [d_is_integer, d_total_of, d_are_lengths, d_is_text, d_require_text, d_replace_words, d__law_deck, d__law_draw, d__law_same, d__law_span, d__law_plan, d__law_told, d__law_right, d_law]
def fa : List He.Fa := [.glo "is_integer", .glo "total_of", .glo "are_lengths", .glo "is_text", .glo "require_text", .glo "replace_words", .glo "_law_deck", .glo "_law_draw", .glo "_law_same", .glo "_law_span", .glo "_law_plan", .glo "_law_told", .glo "_law_right", .glo "law", .free "all", .free "bool", .free "int", .free "isinstance", .free "len", .free "list", .free "max", .free "min", .free "range", .free "repr", .free "str", .free "sum", .free "tuple", .free "zip", .int "MAX_CHARACTERS" 600, .glo "InvalidIndex", .exc "InvalidIndex", .glo "InvalidLengths", .exc "InvalidLengths", .glo "InvalidNumber", .exc "InvalidNumber", .glo "InvalidText", .exc "InvalidText", .exm "InvalidIndex" "InvalidLengths" false, .exm "InvalidLengths" "InvalidLengths" true, .exm "InvalidNumber" "InvalidLengths" false, .exm "InvalidText" "InvalidLengths" false]
abbrev R : PySem.W.OpenRow := PySem.W.OpenLaw.row PySem.Challenge.rw_wrapclues_k47_words_replaced
abbrev hk : PySem.W.Hook := He.hookD 4 fa fn
def ob (s : PySem.W.SharedT) : He.AlD := He.obsDG 4 fa fn (HandSHeadRun.getT s)
theorem ob_eq (s : PySem.W.SharedT) : ob s = hk.obs s.abs := He.obsDG_eq (HandSHeadRun.getT_eq s)
def loose0 : List Str := ["is_integer", "total_of", "are_lengths", "is_text", "require_text", "replace_words", "_law_deck", "_law_draw", "_law_same", "_law_span", "_law_plan", "_law_told", "_law_right", "WrapCluesError", "InvalidText", "InvalidNumber", "InvalidLengths", "InvalidIndex", "MAX_CHARACTERS"]
abbrev loose : List Str := loose0
theorem run (w : World) : HandSHeadRun.RunEq R (PySem.W.view R.prog [23]) hk ob 3000 loose w := by
  intro os
  kernel_rfl
theorem facts {P : Program} {w : World} {K : PySem.W.Frag} {h : Heap} {mg : Str → Option Value} {f : Addr} (X : K.In h) (G : h.Ns mainGlobals mg) (hfa : mg ("law" : Str) = some (.ref f)) (c : He.SaysD fa fn K) :
    ∃ fd : FuncData, (∀ (s : Shared) (u : Value), BindsTo s fd ⟨[u], []⟩ [("script", u)]) ∧ ∀ base : Heap, K.In base → base.Ns mainGlobals mg → FnG P w K mg base 11 f fd ["script"] (sp_law K) := by
  obtain ⟨fd_is_integer, F_is_integer⟩ := c.def_ 0 (d := d_is_integer) rfl
  obtain ⟨fd_total_of, F_total_of⟩ := c.def_ 1 (d := d_total_of) rfl
  obtain ⟨fd_are_lengths, F_are_lengths⟩ := c.def_ 2 (d := d_are_lengths) rfl
  obtain ⟨fd_is_text, F_is_text⟩ := c.def_ 3 (d := d_is_text) rfl
  obtain ⟨fd_require_text, F_require_text⟩ := c.def_ 4 (d := d_require_text) rfl
  obtain ⟨fd_replace_words, F_replace_words⟩ := c.def_ 5 (d := d_replace_words) rfl
  obtain ⟨fd__law_deck, F__law_deck⟩ := c.def_ 6 (d := d__law_deck) rfl
  obtain ⟨fd__law_draw, F__law_draw⟩ := c.def_ 7 (d := d__law_draw) rfl
  obtain ⟨fd__law_same, F__law_same⟩ := c.def_ 8 (d := d__law_same) rfl
  obtain ⟨fd__law_span, F__law_span⟩ := c.def_ 9 (d := d__law_span) rfl
  obtain ⟨fd__law_plan, F__law_plan⟩ := c.def_ 10 (d := d__law_plan) rfl
  obtain ⟨fd__law_told, F__law_told⟩ := c.def_ 11 (d := d__law_told) rfl
  obtain ⟨fd__law_right, F__law_right⟩ := c.def_ 12 (d := d__law_right) rfl
  obtain ⟨fd_law, F_law⟩ := c.def_ 13 (d := d_law) rfl
  have g_is_integer := He.glo_ok X G (c.fact 0 (f := .glo "is_integer") rfl)
  have g_total_of := He.glo_ok X G (c.fact 1 (f := .glo "total_of") rfl)
  have g_are_lengths := He.glo_ok X G (c.fact 2 (f := .glo "are_lengths") rfl)
  have g_is_text := He.glo_ok X G (c.fact 3 (f := .glo "is_text") rfl)
  have g_require_text := He.glo_ok X G (c.fact 4 (f := .glo "require_text") rfl)
  have g_replace_words := He.glo_ok X G (c.fact 5 (f := .glo "replace_words") rfl)
  have g__law_deck := He.glo_ok X G (c.fact 6 (f := .glo "_law_deck") rfl)
  have g__law_draw := He.glo_ok X G (c.fact 7 (f := .glo "_law_draw") rfl)
  have g__law_same := He.glo_ok X G (c.fact 8 (f := .glo "_law_same") rfl)
  have g__law_span := He.glo_ok X G (c.fact 9 (f := .glo "_law_span") rfl)
  have g__law_plan := He.glo_ok X G (c.fact 10 (f := .glo "_law_plan") rfl)
  have g__law_told := He.glo_ok X G (c.fact 11 (f := .glo "_law_told") rfl)
  have g__law_right := He.glo_ok X G (c.fact 12 (f := .glo "_law_right") rfl)
  have g_law := He.glo_ok X G (c.fact 13 (f := .glo "law") rfl)
  have W : Wd K mg := ⟨He.free_ok X G (c.fact 14 (f := .free "all") rfl), He.free_ok X G (c.fact 15 (f := .free "bool") rfl), He.free_ok X G (c.fact 16 (f := .free "int") rfl), He.free_ok X G (c.fact 17 (f := .free "isinstance") rfl), He.free_ok X G (c.fact 18 (f := .free "len") rfl), He.free_ok X G (c.fact 19 (f := .free "list") rfl), He.free_ok X G (c.fact 20 (f := .free "max") rfl), He.free_ok X G (c.fact 21 (f := .free "min") rfl), He.free_ok X G (c.fact 22 (f := .free "range") rfl), He.free_ok X G (c.fact 23 (f := .free "repr") rfl), He.free_ok X G (c.fact 24 (f := .free "str") rfl), He.free_ok X G (c.fact 25 (f := .free "sum") rfl), He.free_ok X G (c.fact 26 (f := .free "tuple") rfl), He.free_ok X G (c.fact 27 (f := .free "zip") rfl), He.int_ok X G (c.fact 28 (f := .int "MAX_CHARACTERS" 600) rfl), excF_of X G (c.fact 29 (f := .glo "InvalidIndex") rfl) (c.fact 30 (f := .exc "InvalidIndex") rfl), excF_of X G (c.fact 31 (f := .glo "InvalidLengths") rfl) (c.fact 32 (f := .exc "InvalidLengths") rfl), excF_of X G (c.fact 33 (f := .glo "InvalidNumber") rfl) (c.fact 34 (f := .exc "InvalidNumber") rfl), excF_of X G (c.fact 35 (f := .glo "InvalidText") rfl) (c.fact 36 (f := .exc "InvalidText") rfl), exm_fact (c.fact 37 (f := .exm "InvalidIndex" "InvalidLengths" false) rfl), exm_fact (c.fact 38 (f := .exm "InvalidLengths" "InvalidLengths" true) rfl), exm_fact (c.fact 39 (f := .exm "InvalidNumber" "InvalidLengths" false) rfl), exm_fact (c.fact 40 (f := .exm "InvalidText" "InvalidLengths" false) rfl)⟩
  have e := hfa.symm.trans g_law
  cases e
  have b := FunD.bindsA (ps := ["script"]) F_law fun _ _ _ _ _ _ us hl => match us, hl with | [_], _ => rfl
  refine ⟨fd_law, fun s u => b s [u] rfl, fun base _ _ => ?_⟩
  have o_is_integer : FnOk P w K mg base CX0 1 _ fd_is_integer ["value", "low", "high"] (sp_is_integer K) := ok_is_integer F_is_integer W 
  obtain ⟨ds_c_is_integer_2, r_c_is_integer_2, b_c_is_integer_2⟩ := F_is_integer.binds1 (ps := ["value", "low", "high"]) 2 0 (List.cons_ne_nil _ _) rfl (fun T kV doc pm an cdv ct us its h1 h2 => match us, h1, its, h2 with | [_, _], _, [_], _ => ⟨_, rfl, rfl⟩)
  have c_is_integer_2 : Cal P w K mg base CX0 1 "is_integer" ["value", "low", "high"] [.non] (sp_is_integer K) := ⟨⟨_, _, _, o_is_integer, g_is_integer, F_is_integer.kp, r_c_is_integer_2, b_c_is_integer_2⟩⟩
  obtain ⟨ds_c_is_integer, r_c_is_integer, b_c_is_integer⟩ := F_is_integer.binds1 (ps := ["value", "low", "high"]) 3 1 (List.cons_ne_nil _ _) rfl (fun T kV doc pm an cdv ct us its h1 h2 => match us, h1, its, h2 with | [_, _, _], _, [_], _ => ⟨_, rfl, rfl⟩)
  have c_is_integer : Cal P w K mg base CX0 1 "is_integer" ["value", "low", "high"] [] (sp_is_integer K) := ⟨⟨_, _, _, o_is_integer, g_is_integer, F_is_integer.kp, r_c_is_integer, b_c_is_integer⟩⟩
  have o_total_of : FnOk P w K mg base CX0 1 _ fd_total_of ["lengths"] (sp_total_of K) := ok_total_of F_total_of W 
  have c_total_of : Cal P w K mg base CX0 1 "total_of" ["lengths"] [] (sp_total_of K) := ⟨⟨_, _, _, o_total_of, g_total_of, F_total_of.kp, .nil, F_total_of.bindsN (fun _ _ _ _ _ _ us hl => match us, hl with | [_], _ => rfl)⟩⟩
  have o_are_lengths : FnOk P w K mg base CX0 2 _ fd_are_lengths ["value"] (sp_are_lengths K) := ok_are_lengths F_are_lengths W c_total_of c_is_integer_2
  have c_are_lengths : Cal P w K mg base CX0 2 "are_lengths" ["value"] [] (sp_are_lengths K) := ⟨⟨_, _, _, o_are_lengths, g_are_lengths, F_are_lengths.kp, .nil, F_are_lengths.bindsN (fun _ _ _ _ _ _ us hl => match us, hl with | [_], _ => rfl)⟩⟩
  have o_is_text : FnOk P w K mg base CX0 3 _ fd_is_text ["value"] (sp_is_text K) := ok_is_text F_is_text W c_are_lengths
  have c_is_text : Cal P w K mg base CX0 3 "is_text" ["value"] [] (sp_is_text K) := ⟨⟨_, _, _, o_is_text, g_is_text, F_is_text.kp, .nil, F_is_text.bindsN (fun _ _ _ _ _ _ us hl => match us, hl with | [_], _ => rfl)⟩⟩
  have o_require_text : FnOk P w K mg base (L2.CX P w) 4 _ fd_require_text ["text"] (sp_require_text K) := ok_require_text F_require_text W c_is_text
  have c_require_text : Cal P w K mg base (L2.CX P w) 4 "require_text" ["text"] [] (sp_require_text K) := ⟨⟨_, _, _, o_require_text, g_require_text, F_require_text.kp, .nil, F_require_text.bindsN (fun _ _ _ _ _ _ us hl => match us, hl with | [_], _ => rfl)⟩⟩
  have o_replace_words : FnOk P w K mg base (L2.CX P w) 5 _ fd_replace_words ["text", "first", "count", "words"] (sp_replace_words K) := ok_replace_words F_replace_words W c_is_text c_is_integer c_require_text
  have c_replace_words : Cal P w K mg base (L2.CX P w) 5 "replace_words" ["text", "first", "count", "words"] [] (sp_replace_words K) := ⟨⟨_, _, _, o_replace_words, g_replace_words, F_replace_words.kp, .nil, F_replace_words.bindsN (fun _ _ _ _ _ _ us hl => match us, hl with | [_, _, _, _], _ => rfl)⟩⟩
  have cK_replace_words_words_count_first_text : CalK P w K mg base (L2.CX P w) 5 "replace_words" ["text", "first", "count", "words"] ["words", "count", "first", "text"] [3, 2, 1, 0] (sp_replace_words K) := ⟨⟨_, _, o_replace_words, g_replace_words, F_replace_words.kp, kbn_of F_replace_words (fun _ _ _ _ _ _ ws hl => match ws, hl with | [_, _, _, _], _ => rfl)⟩⟩
  have o__law_deck : FnOk P w K mg base CX0 1 _ fd__law_deck ["script"] (sp__law_deck K) := ok__law_deck F__law_deck W 
  have c__law_deck : Cal P w K mg base CX0 1 "_law_deck" ["script"] [] (sp__law_deck K) := ⟨⟨_, _, _, o__law_deck, g__law_deck, F__law_deck.kp, .nil, F__law_deck.bindsN (fun _ _ _ _ _ _ us hl => match us, hl with | [_], _ => rfl)⟩⟩
  have o__law_draw : FnOk P w K mg base CX0 1 _ fd__law_draw ["deck", "many"] (sp__law_draw K) := ok__law_draw F__law_draw W 
  have c__law_draw : Cal P w K mg base CX0 1 "_law_draw" ["deck", "many"] [] (sp__law_draw K) := ⟨⟨_, _, _, o__law_draw, g__law_draw, F__law_draw.kp, .nil, F__law_draw.bindsN (fun _ _ _ _ _ _ us hl => match us, hl with | [_, _], _ => rfl)⟩⟩
  have a__law_same : ∀ n : Nat, FnOk P w K mg base CX0 (1 + n) (He.fAd K d__law_same.at_) fd__law_same ["found", "due"] (sp__law_same n K) := by
    intro n
    induction n with
    | zero => exact ⟨fun vs H Q E h => False.elim h, fun A outer s H args us vs Q E hr he hb hv h => False.elim h⟩
    | succ n ih =>
      have C : Cal P w K mg base CX0 (1 + n) "_law_same" ["found", "due"] [] (sp__law_same n K) := ⟨⟨_, _, _, ih, g__law_same, F__law_same.kp, .nil, F__law_same.bindsN (fun _ _ _ _ _ _ us hl => match us, hl with | [_, _], _ => rfl)⟩⟩
      exact ok__law_same F__law_same W C
  have o__law_same := a__law_same 8
  have c__law_same : Cal P w K mg base CX0 9 "_law_same" ["found", "due"] [] (sp__law_same 8 K) := ⟨⟨_, _, _, o__law_same, g__law_same, F__law_same.kp, .nil, F__law_same.bindsN (fun _ _ _ _ _ _ us hl => match us, hl with | [_, _], _ => rfl)⟩⟩
  have o__law_span : FnOk P w K mg base CX0 1 _ fd__law_span ["sizes"] (sp__law_span K) := ok__law_span F__law_span W 
  have c__law_span : Cal P w K mg base CX0 1 "_law_span" ["sizes"] [] (sp__law_span K) := ⟨⟨_, _, _, o__law_span, g__law_span, F__law_span.kp, .nil, F__law_span.bindsN (fun _ _ _ _ _ _ us hl => match us, hl with | [_], _ => rfl)⟩⟩
  have o__law_plan : FnOk P w K mg base CX0 2 _ fd__law_plan ["deck", "most", "longest"] (sp__law_plan K) := ok__law_plan F__law_plan W c__law_draw c__law_span
  have c__law_plan : Cal P w K mg base CX0 2 "_law_plan" ["deck", "most", "longest"] [] (sp__law_plan K) := ⟨⟨_, _, _, o__law_plan, g__law_plan, F__law_plan.kp, .nil, F__law_plan.bindsN (fun _ _ _ _ _ _ us hl => match us, hl with | [_, _, _], _ => rfl)⟩⟩
  have o__law_told : FnOk P w K mg base CX0 6 _ fd__law_told ["plan", "at", "many", "more", "is_named"] (sp__law_told K) := ok__law_told F__law_told W c_replace_words cK_replace_words_words_count_first_text
  have c__law_told : Cal P w K mg base CX0 6 "_law_told" ["plan", "at", "many", "more", "is_named"] [] (sp__law_told K) := ⟨⟨_, _, _, o__law_told, g__law_told, F__law_told.kp, .nil, F__law_told.bindsN (fun _ _ _ _ _ _ us hl => match us, hl with | [_, _, _, _, _], _ => rfl)⟩⟩
  have o__law_right : FnG P w K mg base 10 _ fd__law_right ["plan", "at", "many", "more"] (sp__law_right K) := ok__law_right F__law_right W c__law_same c__law_told c__law_span
  have c__law_right : CalG P w K mg base 10 "_law_right" ["plan", "at", "many", "more"] (sp__law_right K) := ⟨⟨_, _, o__law_right, g__law_right, F__law_right.kp, F__law_right.bindsN (fun _ _ _ _ _ _ us hl => match us, hl with | [_, _, _, _], _ => rfl)⟩⟩
  exact ok_law F_law W c__law_right c_replace_words c__law_span c__law_draw c__law_plan c__law_deck
end Wc
open PySem PySem.W PySem.Calls PyProof.Rows
theorem PySem.Challenge.cw_wrapclues_k47_words_replaced_holds : PySem.Challenge.rw_wrapclues_k47_words_replaced.Holds := by
  w_on; o_law
  refine HandSHeadRun.head_any (r := OpenLaw.row PySem.Challenge.rw_wrapclues_k47_words_replaced) (q := view (OpenLaw.row PySem.Challenge.rw_wrapclues_k47_words_replaced).prog [23]) (H := Wc.hk) (ob := Wc.ob) (M := 3000) (loose := Wc.loose) (d := HandSHeadRun.topDef (OpenLaw.row PySem.Challenge.rw_wrapclues_k47_words_replaced).prog 23) (kwd := []) Wc.ob_eq
    (by kernel_rfl) (fun s => by kernel_rfl) Wc.run (by kernel_rfl) (by kernel_rfl) (by kernel_rfl) (by rfl) (by first | assumption | decide +kernel) (by decide +kernel) ⟨rfl, rfl, rfl, rfl, rfl, by decide +kernel⟩ ?hw ?hc
  case hw => w_witness2
  case hc =>
    refine Wc.walk_ofG (l := PySem.Challenge.rw_wrapclues_k47_words_replaced) (n := 63) (k := 11) (x := "script") rfl (by decide) (by kernel_rfl) ⟨rfl, by decide, by decide⟩ ?F
    intro w mg fa h Y G hmg0
    obtain ⟨K, KX, c⟩ := Y
    have hmg : mg ("law" : PySem.Str) = some (.ref fa) := by
      have e : (HandSHeadRun.topDef (OpenLaw.row PySem.Challenge.rw_wrapclues_k47_words_replaced).prog 23).name = ("law" : PySem.Str) := by kernel_rfl
      rw [← e]
      exact hmg0
    obtain ⟨fd, hb, hF⟩ := Wc.facts (P := (PySem.Challenge.rw_wrapclues_k47_words_replaced).prog) (w := w) KX G hmg c
    exact ⟨K, fd, Wc.sp_law K, KX, hb, fun H a ns hl hbits _ hS => ⟨a, ns, rfl, hS, hl, hbits, fun _ => rfl⟩, hF⟩
#print axioms PySem.Challenge.cw_wrapclues_k47_words_replaced_holds

