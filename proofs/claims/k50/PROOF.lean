import PyProof.Rows.All
import Wide.All
import OpenK.AllK
import Wide.FinOn
import KE.KStateDown
import HandS.ForMost
import HandS.ForExc
import HandS.Defaults
import HandS.IsInst
import HandS.TupLe
import HandS.Wide
import HandS.SortInts
import HandS.EndBits
import HandS.MakeKwOnly
import HandS.Head0
import HandS.Head1
import HandS.Head2
import HandS.HeadEnd
import HandS.HeadHook1
import HandS.HeadHook2
import HandS.Walk
import HandS.Zip
import HandS.Conv
import HandS.TryOnly
import HandS.ExcOwn
import HandS.CallSlots
import HandS.More
import HandS.Style
import PySem.Challenge.RW_wrapclues_k50_whole_meetings_and_edits
set_option Elab.async false
set_option linter.all false
set_option maxRecDepth 100000
set_option maxHeartbeats 4000000
/-! Rules of my own over the hand layer: defs that ask that no repr is under way (guards), calls by keywords alone, powers, repr of data. -/
namespace Wc
open PySem PySem.Spec PyProof.Rows L2

/-! ### a callee, bundled -/
structure Cal (P : Program) (w : World) (K : PySem.W.Frag) (mg : Str → Option Value) (base : Heap) (CX : CXT) (k : Nat) (x : Str) (ps : List Str) (dvs : List V) (sp : Sp) : Prop where
  ex : ∃ (f : Addr) (fd : FuncData) (ds : List Value), FnOk P w K mg base CX k f fd ps sp ∧ mg x = some (.ref f) ∧ PySem.W.keepIn K (.ref f) = true ∧ Vals dvs ds ∧ L2.Binds K fd ps ds

section
variable {X : Cx} {CX : CXT} {k : Nat} {x : Str} {ps : List Str} {dvs : List V} {sp : Sp} {E : XK} {p pos : Pos} {e : Expr} {es : List Expr} {t : TA}
theorem pe_cal (c : Cal X.prog X.w X.K X.mg X.base CX k x ps dvs sp) (hr : Room k X.A) (hx : Passes CX X E) (ha : PA X (e :: es) t) (hg : Gl X x := by rfl) (hdb : (x == ("__debug__" : Str)) = false := by decide)
    (he : starEach (e :: es) X.env = (false, eval e X.env) :: starEach es X.env := by rfl) (hpl : (backTo pos (starEach es X.env)).any (·.1) = false := by rfl) :
    PE X (.Call (.Name x p) (e :: es) [] pos) (tCall sp dvs E t) := by
  obtain ⟨f, fd, ds, F, hm, hk, hd, hb⟩ := c.ex
  exact pe_call F hr hg hm hk hb hd hx ha hdb he hpl
theorem pe_cal0 (c : Cal X.prog X.w X.K X.mg X.base CX k x ps dvs sp) (hr : Room k X.A) (hx : Passes CX X E) (hg : Gl X x := by rfl) (hdb : (x == ("__debug__" : Str)) = false := by decide) :
    PE X (.Call (.Name x p) [] [] pos) (tCall sp dvs E tNil) := by
  obtain ⟨f, fd, ds, F, hm, hk, hd, hb⟩ := c.ex
  exact pe_call0 F hr hg hm hk hb hd hx hdb
end

/-! ### defs that run where no guard stands (for repr) -/
structure FnG (P : Program) (w : World) (K : PySem.W.Frag) (mg : Str → Option Value) (base : Heap) (k : Nat) (f : Addr) (fd : FuncData) (ps : List Str) (sp : Sp) : Prop where
  len : ∀ vs H Q E, sp vs H Q E → vs.length = ps.length
  run : ∀ (A : Around) (outer : List Env) (s : Shared) (H : Hp) (args : Args) (us : List Value) (vs : List V) (Q : VK) (E : XK), A.guards = some [] → Room k A → Env0 P w K mg base A outer s H →
    BindsTo s fd args (ps.zip us) → Vals vs us → sp vs H Q E → codeAny (model P w) A (.call (.ref f) args) (CR CX0 outer P w H s Q E) s

theorem deeper_guards {A : Around} {q : Str} {sc : Scope} {L f : Addr} {cd : Value} (h : A.guards = some []) : (A.deeper (envOfC q sc L f cd)).guards = some [] := h

theorem fnG_of {P : Program} {w : World} {K : PySem.W.Frag} {mg : Str → Option Value} {base : Heap} {k : Nat} {x qual : Str} {params : Arguments} {body : List Stmt} {sc : Scope} {f : Addr} {fd : FuncData} {N ps : List Str} {sp : Sp}
    (F : FunD K x qual params body sc [] [] f fd) (S : FnScope N ps sc) (len : ∀ vs H Q E, sp vs H Q E → vs.length = ps.length)
    (hbody : ∀ (cdv : Value) (A : Around) (outer : List Env) (s : Shared) (H : Hp) (vs : List V) (Q : VK) (E : XK), (A.deeper (envOfC qual sc s.heap.objs.size f cdv)).guards = some [] →
      Room k (A.deeper (envOfC qual sc s.heap.objs.size f cdv)) → sp vs H Q E →
      ∃ t, PSs (cxOf CX0 P w K mg base N qual sc f cdv A outer s H E).nox body t ∧ t { nx := fun _ H' => Q .non H', rt := Q } (start N vs) H) : FnG P w K mg base (k + 1) f fd ps sp := by
  obtain ⟨oc, od, dV, kV, doc, pm, an, cdv, ct, osl, rfl, lk, hcd, _, _⟩ := F.ex
  refine ⟨len, ?_⟩
  intro A outer s H args us vs Q E hg hr e0 hb r hsp
  have lenv := len _ _ _ _ hsp
  have keeps : ∀ b o, base.get? b = some o → s.heap.get? b = some o := fun b o e => (e0.bs b o e).1
  have KX : K.In s.heap := e0.mod.kin.keeps keeps
  have noL : s.heap.NoLimit := e0.mod.nolimit.keeps keeps
  refine codeAny_call_function hr.depth (KX _ _ lk) rfl S.co S.gen rfl (PySem.W.codeRec_of KX hcd) (hb _ _ _ _ ?_)
  refine wpAny_newFunctionEnv_cells S.kind ?kinds ?main
  case kinds =>
    rintro ⟨n, v⟩ hy
    cases S.par n (List.of_mem_zip hy).1 with
    | inl q => exact .inl q
    | inr q => exact .inr ⟨q, PySem.W.cellsFrom_some _ _ _ (.inl q)⟩
  case main =>
    rintro env rfl s1 x
    refine ⟨noL.keeps x.toInCall.keep, codeAny_func ?_⟩
    obtain ⟨t, ht, hq⟩ := hbody cdv A outer s H vs Q E (deeper_guards hg) (hr.deeper _) hsp
    have I := inv_start (CX := CX0) (E := E) S hr.hd e0 lenv r x
    refine wpAny_mono (ht.nox.run [] s1 (start N vs) H _ I hq) ?good ?bad
    case bad => exact fun _ _ h => h
    case good =>
      intro fl s' hs
      have fin : ∀ {σ' : L2.St} {H' : Hp} {v : V} {u : Value}, Inv (cxOf CX0 P w K mg base N qual sc f cdv A outer s H E) [] σ' H' s' → RelV v u → Q v H' → CE outer P w H s Q u s' := by
        intro σ' H' v u J rv q
        exact ⟨v, H', J.os, J.bare, J.base, J.hok, rv, q⟩
      match fl, hs with
      | .ret _, ⟨_, _, _, J, rv, q⟩ => exact fin J rv q
      | .next, ⟨_, _, J, q⟩ => exact fin (v := V.non) (u := Value.none) J rfl q
      | .brk, ⟨_, _, _, q⟩ => exact q.elim
      | .cont, ⟨_, _, _, q⟩ => exact q.elim

structure CalG (P : Program) (w : World) (K : PySem.W.Frag) (mg : Str → Option Value) (base : Heap) (k : Nat) (x : Str) (ps : List Str) (sp : Sp) : Prop where
  ex : ∃ (f : Addr) (fd : FuncData), FnG P w K mg base k f fd ps sp ∧ mg x = some (.ref f) ∧ PySem.W.keepIn K (.ref f) = true ∧ L2.Binds K fd ps []

section
variable {X : Cx} {k : Nat} {x : Str} {ps : List Str} {sp : Sp} {p pos : Pos} {e : Expr} {es : List Expr} {t : TA}
/-- f(e, ..), where no guard stands -/
theorem pe_calG (c : CalG X.prog X.w X.K X.mg X.base k x ps sp) (hgd : X.A.guards = some []) (hr : Room k X.A) (ha : PA X (e :: es) t) (hg : Gl X x := by rfl) (hdb : (x == ("__debug__" : Str)) = false := by decide)
    (he : starEach (e :: es) X.env = (false, eval e X.env) :: starEach es X.env := by rfl) (hpl : (backTo pos (starEach es X.env)).any (·.1) = false := by rfl) :
    PE X (.Call (.Name x p) (e :: es) [] pos) (tCall sp [] E0 t) := by
  obtain ⟨f, fd, F, hm, hk, hb⟩ := c.ex
  constructor
  intro pins s σ H Q I h
  refine wpAny_Call_Name_kw (ld_glob I hg hm ?_ hdb)
  refine PySem.W.callWith_K (h₀ := X.base) I.ok.mod.kin hk (thn (ha.run pos pins s σ H _ I h) ?_) he hpl
  rintro us s1 ⟨vs, H1, I1, r, q⟩
  refine ⟨I1.kIn, ?_⟩
  have q' : sp vs H1 Q E0 := by
    have q0 : sp (vs ++ []) H1 Q E0 := q
    rwa [List.append_nil] at q0
  have lu : us.length = ps.length := by rw [← r.length]; exact F.len _ _ _ _ q'
  have hb' : BindsTo s1 fd ⟨us, []⟩ (ps.zip us) := by
    have z := hb s1 us I1.kIn (by rw [List.append_nil]; exact lu)
    rwa [List.append_nil] at z
  refine wpAny_call (codeAny_mono (F.run X.A X.stack s1 H1 ⟨us, []⟩ us vs Q E0 hgd hr I1.env0 hb' r q') ?_)
  intro res s' hq
  match res, hq with
  | .ok (.ret _), hq => exact I1.after hq
  | .ok .next, hq => exact hq.elim
  | .ok .brk, hq => exact hq.elim
  | .ok .cont, hq => exact hq.elim
  | .error _, hq => exact hq.elim
end

/-! ### calls by keywords alone -/
/-- the parameters' values, by the keywords' places -/
def permV (is : List Nat) : List V → List V → List V := fun _ zs => is.map fun i => zs.getD i .non
def permW (is : List Nat) : List Value → List Value → List Value := fun _ ws => is.map fun i => ws.getD i .none
theorem vals_getD {zs : List V} {ws : List Value} (r : Vals zs ws) (i : Nat) : RelV (zs.getD i .non) (ws.getD i .none) := by
  cases e : zs[i]? with
  | none =>
    have e2 := Vals.none_of r e
    rw [List.getD_eq_getElem?_getD, List.getD_eq_getElem?_getD, e, e2]
    rfl
  | some z =>
    obtain ⟨u, e2, ru⟩ := Vals.get r e
    rw [List.getD_eq_getElem?_getD, List.getD_eq_getElem?_getD, e, e2]
    exact ru
theorem perm_rel {zs : List V} {ws : List Value} (r : Vals zs ws) : ∀ is : List Nat, Vals (is.map fun i => zs.getD i .non) (is.map fun i => ws.getD i .none)
  | [] => .nil
  | i :: is => .cons (vals_getD r i) (perm_rel r is)
structure CalK (P : Program) (w : World) (K : PySem.W.Frag) (mg : Str → Option Value) (base : Heap) (CX : CXT) (k : Nat) (x : Str) (ps ks : List Str) (is : List Nat) (sp : Sp) : Prop where
  ex : ∃ (f : Addr) (fd : FuncData), FnOk P w K mg base CX k f fd ps sp ∧ mg x = some (.ref f) ∧ PySem.W.keepIn K (.ref f) = true ∧ KBn K fd ps 0 ks (permW is) (permV is)
/-- a def without defaults, called by keywords alone -/
theorem kbn_of {K : PySem.W.Frag} {x qual : Str} {params : Arguments} {body : List Stmt} {sc : Scope} {kws : List (Str × V)} {f : Addr} {fd : FuncData} {ps ks : List Str} {is : List Nat} (F : FunD K x qual params body sc [] kws f fd)
    (h : ∀ (kV doc pm : Value) (an : Option Addr) (cdv ct : Value) (ws : List Value), ws.length = ks.length →
      bindArgs (PySem.W.fnOf x qual params body sc .none kV doc pm an cdv ct) ⟨[], ks.zip ws⟩ = pure (ps.zip (is.map fun i => ws.getD i .none))) : KBn K fd ps 0 ks (permW is) (permV is) := by
  obtain ⟨oc, od, dV, kV, doc, pm, an, cdv, ct, osl, rfl, lk, hcd, hD, hK⟩ := F.ex
  cases hD with
  | inr z => exact absurd rfl z.1
  | inl z =>
    obtain ⟨_, rfl⟩ := z
    constructor
    · intro s us ws _ l1 l2
      have e : us = [] := List.length_eq_zero_iff.mp l1
      subst e
      exact .of_eq (h kV doc pm an cdv ct ws l2)
    · intro vs us zs ws _ r2
      exact perm_rel r2 is
/-- f(k = e, ..): the values as they are written, then the promise of the parameters' order -/
def tCK (m : Nat) (is : List Nat) (sp : Sp) (E : XK) (tk : TA) : TE := fun σ H Q => tk σ H fun zs H1 => zs.length = m ∧ sp (is.map fun i => zs.getD i .non) H1 Q E
section
variable {X : Cx} {CX : CXT} {k : Nat} {x : Str} {ps ks : List Str} {is : List Nat} {sp : Sp} {E : XK} {p pos : Pos} {kws : List Keyword} {tk : TA}
theorem pe_calK (c : CalK X.prog X.w X.K X.mg X.base CX k x ps ks is sp) (hr : Room k X.A) (hx : Passes CX X E) (hkw : PK X kws tk) (hg : Gl X x := by rfl)
    (hall : (backToKw pos (keywordEach kws X.env)).all (·.1.isSome) = true := by rfl) (hks : (backToKw pos (keywordEach kws X.env)).filterMap (·.1) = ks := by rfl) (hdb : (x == ("__debug__" : Str)) = false := by decide)
    (hpl : ((backTo pos (starEach [] X.env)).any (·.1) || (backToKw pos (keywordEach kws X.env)).any (·.1.isNone)) = false := by rfl) :
    PE X (.Call (.Name x p) [] kws pos) (tCK ks.length is sp E tk) := by
  obtain ⟨f, fd, F, hm, hk, hb⟩ := c.ex
  constructor
  intro pins s σ H Q I h
  refine wpAny_Call_Name_kw (ld_glob I hg hm ?_ hdb)
  refine PySem.W.callWith_KW0 (h₀ := X.base) I.ok.mod.kin hk hall (thn (hkw.run pos pins s σ H _ I h) ?_) hpl
  rintro ws s2 ⟨zs, H2, I2, rz, l2, q2⟩
  refine ⟨I2.kIn, ?_⟩
  rw [hks]
  exact run_fnN F hr hb hx I2 .nil rz rfl l2 q2
end

/-! ### numbers -/
/-- a power of a number of less than 2 ^ 1000, by a small exponent -/
def CPowW (i j : Int) : Prop := 0 ≤ j ∧ j ≤ 1000 ∧ i.natAbs < 2 ^ 1000
theorem bits_of {i : Int} {n : Nat} (h : i.natAbs < 2 ^ n) : Builtin.Int.intBits i ≤ n + 1 := by
  have b : Builtin.Int.intBits i ≤ i.natAbs.log2 + 1 := by
    unfold Builtin.Int.intBits
    split <;> omega
  by_cases z : i.natAbs = 0
  · rw [z] at b
    have : Nat.log2 0 = 0 := by decide
    omega
  · have := (Nat.log2_lt z).mpr h
    omega
section
variable {X : Cx}
theorem op_powW : OpR X (binaryOp .Pow) (rI CPowW fun i j => .int (i ^ j.toNat)) := opI fun i j _ _ _ _ _ hc q => by
  obtain ⟨h0, h1, h2⟩ := hc
  refine pow_int h0 ?_ q
  have hb := bits_of h2
  have hb' : (Builtin.Int.intBits i : Int) ≤ 1001 := by omega
  have : (Builtin.Int.intBits i : Int) * j ≤ 1001 * 1000 := Int.mul_le_mul hb' h1 h0 (by decide)
  omega
end

/-! ### data: what repr and == see -/
mutual
inductive Dq (K : PySem.W.Frag) (H : Hp) : V → PyData → Prop
  | non : Dq K H .non .none
  | bl (b : Bool) : Dq K H (.bl b) (.bool b)
  | int (i : Int) : Dq K H (.int i) (.int i)
  | str (x : Str) : Dq K H (.str x) (.str x)
  | lst {a : Addr} {xs : List V} {ds : List PyData} : H a = some (.lst xs) → DqAll K H xs ds → Dq K H (.ref a) (.list ds)
  | tup {a : Addr} {xs : List V} {ds : List PyData} : H a = some (.tup xs) → DqAll K H xs ds → Dq K H (.ref a) (.tuple ds)
  | dct {a : Addr} : H a = some (.dK []) → Dq K H (.ref a) (.dict [])
inductive DqAll (K : PySem.W.Frag) (H : Hp) : List V → List PyData → Prop
  | nil : DqAll K H [] []
  | cons {v : V} {vs : List V} {d : PyData} {ds : List PyData} : Dq K H v d → DqAll K H vs ds → DqAll K H (v :: vs) (d :: ds)
end
/-! ### repr of data, where no guard stands -/
mutual
theorem noDict1 {K : PySem.W.Frag} {H : Hp} : ∀ (d : PyData) (v : V), Dp K H v d → d.hasDict = false
  | .none, _, _ => by simp only [PyData.hasDict]
  | .bool _, _, _ => by simp only [PyData.hasDict]
  | .int _, _, _ => by simp only [PyData.hasDict]
  | .str _, _, _ => by simp only [PyData.hasDict]
  | .list ds, _, .lst _ ha => by simp only [PyData.hasDict]; exact noDictA ds _ ha
  | .tuple ds, _, .tup _ ha => by simp only [PyData.hasDict]; exact noDictA ds _ ha
  | .dict _, _, h => by cases h
theorem noDictA {K : PySem.W.Frag} {H : Hp} : ∀ (ds : List PyData) (vs : List V), DpAll K H vs ds → PyData.hasDictAll ds = false
  | [], _, _ => by simp only [PyData.hasDictAll]
  | d :: ds, _, .cons h1 h2 => by simp only [PyData.hasDictAll, noDict1 d _ h1, noDictA ds _ h2, Bool.or_self]
end
def rReprD (K : PySem.W.Frag) : List V → Hp → VK → Prop := fun xs H Q => (∃ v d, xs = [v] ∧ Dp K H v d ∧ d.showable = true ∧ d.depth ≤ 60 ∧ d.shown.length ≤ sizeLine ∧ Q (.str d.shown) H) ∨
  ∃ a, xs = [.ref a] ∧ H a = some (.dK []) ∧ Q (.str (PyData.shown (.dict []))) H
section
variable {X : Cx}
theorem call_reprD {k : Nat} (hgd : X.A.guards = some []) (hr : Room k X.A) : CallR X (.builtin "repr") (rReprD X.K) := by
  intro pins s σ H xs us Q I r h
  have hu := hr.units
  rcases h with ⟨v, d, rfl, hd, hs, hdp, hz, q⟩ | ⟨a, rfl, ha, q⟩
  · cases r with
    | cons rv rn =>
      rename_i u us'
      cases rn
      have nd := noDict1 d v hd
      obtain ⟨as, rd⟩ := Dp.reads I d v u hd rv
      cases hd with
      | non => cases rv; exact PySem.P.repr_of_none ⟨.str _, _, I.tok _, ⟨_, rfl⟩, q⟩
      | bl b => cases rv; exact PySem.P.repr_of_bool ⟨.str _, _, I.tok _, ⟨_, rfl⟩, by cases b <;> exact q⟩
      | int i =>
        obtain ⟨t, rfl⟩ := rv
        have hi : i.natAbs.log2 < 1920 := by
          simp only [PyData.showable] at hs
          exact of_decide_eq_true hs
        exact PySem.P.repr_of_int hi ⟨.str _, _, I.tok _, ⟨_, rfl⟩, q⟩
      | str x =>
        obtain ⟨t, rfl⟩ := rv
        exact PySem.P.repr_of_str ⟨.str _, _, I.tok _, ⟨_, rfl⟩, q⟩ hz
      | lst h1 h2 =>
        cases rv
        exact repr_of_reads' rd hs (PyData.noDict_hsm nd) hgd (by omega) (fun _ _ e => e) (fun h' u tk hk => ⟨.str _, _, I.kept hk, ⟨_, rfl⟩, q⟩) hz
      | tup h1 h2 =>
        cases rv
        exact repr_of_reads' rd hs (PyData.noDict_hsm nd) hgd (by omega) (fun _ _ e => e) (fun h' u tk hk => ⟨.str _, _, I.kept hk, ⟨_, rfl⟩, q⟩) hz
  · cases r with
    | cons rv rn =>
      rename_i u us'
      cases rn
      cases rv
      obtain ⟨_, hsy, vs, kv, o, es, ep, h1, h2, h3, h4, h5⟩ := (show ObjOk X.prog X.w H s.heap a (.dK []) from I.hok a _ ha)
      cases kv
      have rd : Reads s.heap (.ref a) (.dict []) [a] := by
        obtain ⟨es⟩ := es
        have h6 : Pairs (mixKind X.prog X.w) es [] := h5.1
        cases h6
        exact Reads.dict (kvs := []) h1 h2.1 h3 .nil .nil
      exact repr_of_reads' rd (by decide) (fun _ hm => by simp at hm; simp [hm] at hsy) hgd (by simp only [PyData.depth, PyData.depthKv]; omega) (fun _ _ e => e) (fun h' u tk hk => ⟨.str _, _, I.kept hk, ⟨_, rfl⟩, q⟩) (by decide)
end

/-! ### the law's end, where no guard stands -/
theorem law_callG {P : Program} {w : World} {K : PySem.W.Frag} {mg mb : Str → Option Value} {k : Nat} {fa a : Addr} {fd : FuncData} {x : Str} {sp : Sp} {s₁ : Shared} {vs : List Value} {ns : List Int}
    (KX : K.In s₁.heap) (hns : s₁.heap.Ns mainGlobals mg) (hb : s₁.heap.Ns builtinsNs mb) (hbb : ∀ x : Str, x ≠ "__name__" → mb x = bootBuiltins x) (noL : s₁.heap.NoLimit) (hg : s₁.gens = #[])
    (ha : s₁.heap.get? a = some { cls := .type "list", data := .seq vs.toArray }) (hi : IntsAre vs ns) (hl : ns.length ≤ sizeLine) (hr : Room k callerA)
    (F : ∀ base : Heap, K.In base → base.Ns mainGlobals mg → FnG P w K mg base k fa fd [x] sp) (hbind : ∀ (s : Shared) (u : Value), BindsTo s fd ⟨[u], []⟩ [(x, u)])
    (hsp : ∀ H : Hp, Only H → SqL K H a (ns.map V.int) → sp [.ref a] H (fun v _ => v = .bl true) E0) :
    codeAny (model P w) callerA (.call (.ref fa) ⟨[.ref a], []⟩) (fun r s' => r = .ok (.ret (.bool true)) ∧ OldK s₁.heap s'.heap ∧ s'.os = s₁.os ∧ AllBare s'.gens) s₁ := by
  have rv := vals_ints hi
  -- over an abstract heap that tracks at most the script
  suffices core : ∀ H : Hp, Only H → SqL K H a (ns.map V.int) → HOk P w H s₁.heap → (∀ b, H b ≠ none → b = a ∧ K.lookup a = none) →
      codeAny (model P w) callerA (.call (.ref fa) ⟨[.ref a], []⟩) (fun r s' => r = .ok (.ret (.bool true)) ∧ OldK s₁.heap s'.heap ∧ s'.os = s₁.os ∧ AllBare s'.gens) s₁ by
    cases hk : K.lookup a with
    | some o =>
      have e := KX a o hk
      rw [ha] at e
      cases e
      have none' : ∀ {b : Addr} {u : HO}, (none : Option HO) = some u → False := fun z => by cases z
      refine core (fun _ => none) (fun _ => .inl rfl) (.inr ⟨_, vs.toArray, _, hk, rfl, rfl, rfl, ?_, ?_⟩) (fun b u z => (none' (b := b) z).elim) (fun b z => (z rfl).elim)
      · rw [List.size_toArray, hi.length]
        exact hl
      · simpa using rv
    | none =>
      let H : Hp := fun b => if b = a then some (.frz { cls := .type "list", data := .seq vs.toArray } (.lst (ns.map V.int))) else none
      have at_ : ∀ {b : Addr} {u : HO}, H b = some u → b = a ∧ u = .frz { cls := .type "list", data := .seq vs.toArray } (.lst (ns.map V.int)) := by
        intro b u z
        by_cases hb : b = a
        · have z' := (if_pos hb).symm.trans z
          cases z'
          exact ⟨hb, rfl⟩
        · have z' := (if_neg hb).symm.trans z
          cases z'
      refine core H (fun b => ?_) (.inl (.inr ⟨_, if_pos rfl⟩)) (fun b u z => ?_) (fun b z => ?_)
      · by_cases hb : b = a
        · exact .inr ⟨_, _, if_pos hb⟩
        · exact .inl (if_neg hb)
      · obtain ⟨rfl, rfl⟩ := at_ z
        refine ⟨ha, ?_, vs, _, rv, ha⟩
        rw [List.length_map]
        exact hl
      · by_cases hb : b = a
        · exact ⟨hb, hk⟩
        · exact (z (if_neg hb)).elim
  intro H hO hS hok hA
  have free : ∀ {b : Addr} {o : Obj}, s₁.heap.get? b = some o → (b = a → K.lookup a = none → False) → H b = none := by
    intro b o _ h
    cases q : H b with
    | none => rfl
    | some u =>
      obtain ⟨e1, e2⟩ := hA b (by rw [q]; simp)
      exact (h e1 e2).elim
  have nsK : ∀ {b : Addr} {m : Str → Option Value}, s₁.heap.Ns b m → (hidT s₁.heap H).Ns b m := by
    rintro b m ⟨o, es, ep, e, d, r⟩
    refine ⟨o, es, ep, hidT_get e (free e ?_), d, r⟩
    rintro rfl _
    rw [ha] at e
    cases e
    cases (show Data.seq vs.toArray _ = Data.dict es ep from d)
  have hKb : K.In (hidT s₁.heap H) := by
    intro b o e
    refine hidT_get (KX b o e) (free (KX b o e) ?_)
    rintro rfl z
    rw [z] at e
    cases e
  have hM : Mod K mg (hidT s₁.heap H) := ⟨hKb, nsK hns, ⟨mb, nsK hb, hbb⟩, let ⟨mc, h1, h2⟩ := noL; ⟨mc, nsK h1, h2⟩⟩
  have nofr : ∀ b : Addr, b ∉ frs [] := fun b z => absurd (show b ∈ ([] : List Addr) from z) (by simp)
  have e0 : Env0 P w K mg (hidT s₁.heap H) callerA [] s₁ H := ⟨rfl, hM, fun b o e => of_hidT e, Nat.le_of_eq (hidT_size _ _), trivial, fun b hb => absurd hb (nofr b), hok, .of_eq hg⟩
  refine codeAny_mono ((F _ hKb (nsK hns)).run callerA [] s₁ H ⟨[.ref a], []⟩ [.ref a] [.ref a] _ _ rfl hr e0 (hbind s₁ (.ref a)) (.cons rfl .nil) (hsp H hO hS)) ?_
  intro r s' h
  match r, h with
  | .error _, h => exact h.elim
  | .ok .next, h => exact h.elim
  | .ok .brk, h => exact h.elim
  | .ok .cont, h => exact h.elim
  | .ok (.ret u), ⟨v, H', os, bare, un, hok', r', q⟩ =>
    have q' : v = .bl true := q
    subst q'
    obtain rfl : u = Value.bool true := r'
    refine ⟨rfl, OldK.of_keep ?_, os, bare⟩
    intro b o e
    cases q : H b with
    | none => exact un.keep b o e q (nofr b) (by simp)
    | some u =>
      rcases hO b with z | ⟨ob, xs, z⟩
      · rw [q] at z
        cases z
      · obtain ⟨e1, _⟩ := hok b _ z
        obtain ⟨e2, _⟩ := hok' b _ (un.frzs b ob _ z)
        rw [e] at e1
        cases e1
        exact e2
theorem walk_ofG {l : PySem.W.OpenLaw} {n k : Nat} {q : Program} {loose : List Str} {XP : (Str → Option Value) → Heap → Prop} {YP : World → Heap → Prop} {d : DefRec} {x : Str}
    (hn : l.most = some n) (hn2 : n ≤ sizeLine) (hdf : d.params.defaults = []) (hr : Room k callerA)
    (F : ∀ (w : World) (mg : Str → Option Value) (fa : Addr) (h : Heap), YP w h → h.Ns mainGlobals mg → mg d.name = some (.ref fa) →
      ∃ (K : PySem.W.Frag) (fd : FuncData) (sp : Sp), K.In h ∧ (∀ (s : Shared) (u : Value), BindsTo s fd ⟨[u], []⟩ [(x, u)]) ∧
        (∀ (H : Hp) (a : Addr) (ns : List Int), ns.length ≤ n → (∀ z ∈ ns, Builtin.Int.intBits z ≤ 1048576) → Only H → SqL K H a (ns.map V.int) → sp [.ref a] H (fun v _ => v = .bl true) E0) ∧
        ∀ base : Heap, K.In base → base.Ns mainGlobals mg → FnG l.prog w K mg base k fa fd [x] sp) :
    PySem.W.WalkO q loose XP YP l.row.toRowW d [] (fun f vs => PySem.call f vs) := by
  refine Att.attach_callB hn hdf ?_
  intro w s₀ s₁ mg mb fa o pm cd doc a vs ns G Y ho hd hcd hmg hobj hints hlen hbits hg
  obtain ⟨K, fd, sp, KX, hb, hsp, hF⟩ := F w mg fa _ Y G.T.g hmg
  exact law_callG KX G.T.g G.T.b G.T.builtins G.T.nolimit hg hobj hints (Nat.le_trans hlen hn2) hr hF hb fun H hO hS => hsp H a ns hlen hbits hO hS
end Wc

/-! Shared words for the walks: constants, own errors, heaps, lists of iV, loops, comprehensions, data. -/
namespace Wc
open PySem PySem.Spec PyProof.Rows L2

/-! ### constants of the module -/
section
variable {X : Cx} {x : Str} {p : Pos}
theorem pe_gint {i : Int} (hm : ∃ t, X.mg x = some (.int i t)) (hg : Gl X x := by rfl) (hdb : (x == ("__debug__" : Str)) = false := by decide) : PE X (.Name x p) (tC (.int i)) := by
  obtain ⟨t, h⟩ := hm
  exact pe_glob (v := .int i) hg h ⟨t, rfl⟩ hdb
theorem pe_gstr {z : Str} (hm : ∃ t, X.mg x = some (.str z t)) (hg : Gl X x := by rfl) (hdb : (x == ("__debug__" : Str)) = false := by decide) : PE X (.Name x p) (tC (.str z)) := by
  obtain ⟨t, h⟩ := hm
  exact pe_glob (v := .str z) hg h ⟨t, rfl⟩ hdb
end

section
variable {X : Cx} {x : Str} {p : Pos}
theorem pe_ty {n : String} (hm : X.mg x = none) (hv : bootBuiltins x = some (.type n)) (hg : Gl X x := by rfl) (hn : x ≠ "__name__" := by decide) (hdb : (x == ("__debug__" : Str)) = false := by decide) : PE X (.Name x p) (tC (.ty n)) :=
  pe_bltn (v := .ty n) hg hm hv rfl hn hdb
end

/-! ### own errors -/
def xc (K : PySem.W.Frag) (x : Str) : Value := .ref (He.ga K x)
structure ExcF (K : PySem.W.Frag) (mg : Str → Option Value) (x : Str) : Prop where
  g : mg x = some (xc K x)
  q : PySem.W.excIn K (He.ga K x) He.veBase "ValueError.__new__" = true
  k : PySem.W.keepIn K (xc K x) = true
  b : PySem.W.subIn K (xc K x) (.type "BaseException") = some true
  t : PySem.W.typeIn K (xc K x) = some (.type "type")
theorem excF_of {K : PySem.W.Frag} {h : Heap} {mg : Str → Option Value} {x : Str} (X : K.In h) (G : h.Ns mainGlobals mg) (c1 : (He.Fa.glo x).ok K = true) (c2 : (He.Fa.exc x).ok K = true) : ExcF K mg x := by
  obtain ⟨h1, h2, h3, h4⟩ := He.exc_ok c2
  exact ⟨He.glo_ok X G c1, h1, h2, h3, h4⟩
section
variable {X : Cx}
theorem ps_raiseT {x m : Str} {j : Nat} {p p2 pos pos2 : Pos} {W : WX} (tk : Takes X W) (T : ExcF X.K X.mg x) (hc : X.calm = true := by rfl) (hg : Gl X x := by rfl) (hdb : (x == ("__debug__" : Str)) = false := by decide) :
    PS X (.Raise (some (.Call (.Name x p) [.Constant (.str m) j p2] [] pos)) none pos2) (fun _ σ H => W (xc X.K x) none σ H) :=
  ps_raise hc tk (pmk_own PySem.F.excBase_ValueError T.q T.g T.k (raises_own T.b T.t) hg hdb)
end

/-! ### heaps -/
section
variable {H H' H1 H2 : Hp} {a b p : Addr} {o u : HO}
theorem same_new (h : H p = none) : Same H (upd H p u) := fun b x e => by
  rw [upd_ne (ne_of_none e h)]
  exact e
theorem at_new (h : H a = some o) (hp : H p = none) : upd H p u a = some o := same_new hp a o h
theorem at_mut (h : H a = some o) (ne : a ≠ p) : upd H p u a = some o := by rw [upd_ne ne]; exact h
theorem at_sm (s : Same H H') (h : H a = some o) : H' a = some o := s a o h
/-- all but a stays -/
def But (a : Addr) (H H' : Hp) : Prop := ∀ b, b ≠ a → H' b = H b
theorem But.at {a b : Addr} {H H' : Hp} {o : HO} (s : But a H H') (ne : b ≠ a) (h : H b = some o) : H' b = some o := (s b ne).trans h
theorem But.trans {a : Addr} {H H1 H2 : Hp} (s : But a H H1) (t : But a H1 H2) : But a H H2 := fun b hb => (t b hb).trans (s b hb)
theorem But.refl (a : Addr) (H : Hp) : But a H H := fun _ _ => rfl
/-- what stood ahead, the pot aside, stands -/
def SameB (a : Addr) (H H' : Hp) : Prop := ∀ b o, b ≠ a → H b = some o → H' b = some o
theorem SameB.refl (a : Addr) (H : Hp) : SameB a H H := fun _ _ _ h => h
theorem SameB.trans {a : Addr} {H H1 H2 : Hp} (s : SameB a H H1) (t : SameB a H1 H2) : SameB a H H2 := fun b o n h => t b o n (s b o n h)
theorem SameB.of {a : Addr} {H H' : Hp} (s : Same H H') : SameB a H H' := fun b o _ h => s b o h
theorem SameB.but {a : Addr} {H H' : Hp} (s : But a H H') : SameB a H H' := fun b o n h => s.at n h
theorem SameB.mut {a p : Addr} {H H' : Hp} {u : HO} (s : SameB a H H') (h : H p = Option.none) : SameB a H (upd H' p u) := fun b o n e => by
  rw [upd_ne (ne_of_none e h)]
  exact s b o n e
/-- the pot was made behind H -/
theorem SameB.all {a : Addr} {H H1 H2 : Hp} (s0 : Same H H1) (n : H a = Option.none) (s : SameB a H1 H2) : Same H H2 := fun b o e => s b o (ne_of_none e n) (s0 b o e)
theorem at_but (s : But b H H') (ne : a ≠ b) (h : H a = some o) : H' a = some o := s.at ne h
theorem at_smb (s : SameB b H H') (ne : a ≠ b) (h : H a = some o) : H' a = some o := s a o ne h
/-- an object that H does not know may change behind it -/
theorem same_mut (s : Same H H') (h : H p = none) : Same H (upd H' p u) := fun b x e => by
  rw [upd_ne (ne_of_none e h)]
  exact s b x e
end
end Wc
local macro_rules | `(tactic| walk_at "at") => `(tactic| first
  | assumption
  | exact L2.upd_same
  | (refine Wc.at_new ?_ (by assumption); walk_at "at")
  | (refine Wc.at_sm (by assumption) ?_; walk_at "at")
  | (refine Wc.at_but (by assumption) (by walk_at "ne") ?_; walk_at "at")
  | (refine Wc.at_smb (by assumption) (by walk_at "ne") ?_; walk_at "at")
  | (refine Wc.at_mut ?_ (by walk_at "ne"); walk_at "at"))
local macro_rules | `(tactic| walk_at "ne") => `(tactic| first
  | assumption
  | (apply Ne.symm; assumption)
  | (refine L2.ne_of_none ?_ (by assumption); walk_at "at")
  | (refine Ne.symm (L2.ne_of_none ?_ (by assumption)); walk_at "at"))
namespace Wc
open PySem PySem.Spec PyProof.Rows L2

/-! ### lists of iV -/
abbrev iV (ns : List Int) : List V := ns.map V.int
/-- a list of iV stands at a -/
abbrev IL (H : Hp) (a : Addr) (ns : List Int) : Prop := H a = some (.lst (iV ns))
theorem IL.seq {K : PySem.W.Frag} {H : Hp} {a : Addr} {ns : List Int} (h : IL H a ns) : SqL K H a (iV ns) := .inl (.inl h)
theorem ints_get {ns : List Int} {i : Nat} {x : V} (h : (iV ns)[i]? = some x) : ∃ z, ns[i]? = some z ∧ x = .int z := by
  rw [List.getElem?_map] at h
  cases e : ns[i]? with
  | none => rw [e] at h; cases h
  | some z => rw [e] at h; exact ⟨z, rfl, (Option.some.inj h).symm⟩
theorem get_ints {ns : List Int} {i : Nat} {z : Int} (h : ns[i]? = some z) : (iV ns)[i]? = some (.int z) := by
  rw [List.getElem?_map, h]; rfl
theorem atI_int {ns : List Int} {i : Int} {z : Int} (h : atI ns i = some z) : atI (iV ns) i = some (.int z) := by
  unfold atI at h ⊢
  rw [List.length_map]
  cases e : ixN ns.length i with
  | none => rw [e] at h; cases h
  | some j => rw [e] at h; exact get_ints h
theorem atI_nn {α : Type} {xs : List α} {i : Int} {v : α} (h0 : 0 ≤ i) (h : xs[i.toNat]? = some v) : atI xs i = some v := by
  have e : i = (i.toNat : Int) := by omega
  rw [e]
  exact atI_nat h
theorem atI_end {α : Type} {xs : List α} {v : α} (h : xs.getLast? = some v) : atI xs (-1) = some v := by
  obtain ⟨ys, rfl⟩ := List.getLast?_eq_some_iff.mp h
  exact atI_last ys v
theorem ints_push (ns : List Int) (z : Int) : iV ns ++ [V.int z] = iV (ns ++ [z]) := by simp
theorem ints_app (ns ms : List Int) : iV ns ++ iV ms = iV (ns ++ ms) := by simp
theorem sIx_lt {n d : Nat} (o : Option Int) (hd : d ≤ n) : HT.sIx n d o ≤ n := HT.sIx_le n d hd o
/-- xs[lo:hi] of any list -/
def cutL {α : Type} (xs : List α) (lo hi : Option Int) : List α := (xs.drop (HT.sIx xs.length 0 lo)).take (HT.sIx xs.length xs.length hi - HT.sIx xs.length 0 lo)
theorem cutV_map {α : Type} (f : α → V) (xs : List α) (lo hi : Option Int) : cutV (xs.map f) lo hi = (cutL xs lo hi).map f := by
  unfold cutV cutL
  rw [List.length_map, ← List.map_drop, ← List.map_take]
theorem cutL_to {α : Type} (xs : List α) (k : Int) (h0 : 0 ≤ k) : cutL xs none (some k) = xs.take k.toNat := by
  have e : k = (k.toNat : Int) := by omega
  unfold cutL
  rw [e, HT.sIx_nat, HT.sIx_none]
  simp only [List.drop_zero, Nat.sub_zero, Int.toNat_natCast]
  by_cases hk : k.toNat ≤ xs.length
  · rw [Nat.min_eq_left hk]
  · rw [Nat.min_eq_right (by omega), List.take_length, List.take_of_length_le (by omega)]
theorem cutL_from {α : Type} (xs : List α) (k : Int) (h0 : 0 ≤ k) : cutL xs (some k) none = xs.drop k.toNat := by
  have e : k = (k.toNat : Int) := by omega
  unfold cutL
  rw [e, HT.sIx_nat, HT.sIx_none]
  simp only [Int.toNat_natCast]
  by_cases hk : k.toNat ≤ xs.length
  · rw [Nat.min_eq_left hk]
    exact List.take_of_length_le (by rw [List.length_drop]; omega)
  · rw [Nat.min_eq_right (by omega), List.drop_of_length_le (Nat.le_refl _), List.drop_of_length_le (by omega)]
    simp
theorem cutL_init {α : Type} (xs : List α) : cutL xs none (some (-1)) = xs.dropLast := by
  have e : HT.sIx xs.length xs.length (some (-1)) = xs.length - 1 := by
    show (if (-1 : Int) < 0 then ((-1 : Int) + (xs.length : Int)).toNat else min (-1 : Int).toNat xs.length) = xs.length - 1
    rw [if_pos (by decide)]
    omega
  unfold cutL
  rw [e, HT.sIx_none xs.length 0, List.drop_zero, Nat.sub_zero, List.dropLast_eq_take]

/-! ### what an expression gives, the heap only growing -/
abbrev Evs (te : TE) (σ : L2.St) (H : Hp) (v : V) : Prop := ∀ Q : VK, (∀ H', Same H H' → Q v H') → te σ H Q
abbrev Evt (tt : TT) (σ : L2.St) (H : Hp) (b : Bool) : Prop := ∀ Q : Bool → Hp → Prop, (∀ H', Same H H' → Q b H') → tt σ H Q

/-! ### steps -/
section
variable {te : TE} {tt : TT} {t u : TS} {σ : L2.St} {H : Hp} {Q : VK} {D : Ends} {i : Nat}
/-- a value by what is known of it -/
theorem cutE (P : VK) (h : ∀ Q' : VK, (∀ v H', P v H' → Q' v H') → te σ H Q') (k : ∀ v H', P v H' → Q v H') : te σ H Q := h Q k
theorem cutT {Q : Bool → Hp → Prop} (P : Bool → Hp → Prop) (h : ∀ Q' : Bool → Hp → Prop, (∀ v H', P v H' → Q' v H') → tt σ H Q') (k : ∀ v H', P v H' → Q v H') : tt σ H Q := h Q k
theorem cb1 {r : List V → Hp → VK → Prop} {ta : TE} (h : ta σ H fun x H1 => r [x] H1 Q) : tCB r (tCons ta tNil) σ H Q := h
theorem cb2 {r : List V → Hp → VK → Prop} {ta tb : TE} (h : ta σ H fun x H1 => tb σ H1 fun y H2 => r [x, y] H2 Q) : tCB r (tCons ta (tCons tb tNil)) σ H Q := h
theorem ca1 {sp : Sp} {E : XK} {ta : TE} (h : ta σ H fun x H1 => sp [x] H1 Q E) : tCall sp [] E (tCons ta tNil) σ H Q := h
theorem ca2 {sp : Sp} {E : XK} {ta tb : TE} (h : ta σ H fun x H1 => tb σ H1 fun y H2 => sp [x, y] H2 Q E) : tCall sp [] E (tCons ta (tCons tb tNil)) σ H Q := h
theorem ca3 {sp : Sp} {E : XK} {ta tb tc : TE} (h : ta σ H fun x H1 => tb σ H1 fun y H2 => tc σ H2 fun z H3 => sp [x, y, z] H3 Q E) : tCall sp [] E (tCons ta (tCons tb (tCons tc tNil))) σ H Q := h
theorem op_go {r : R2} {ta tb : TE} (h : ta σ H fun x H1 => tb σ H1 fun y H2 => r x y H2 Q) : tOp r ta tb σ H Q := h
theorem tt_go {ta : TE} {Q : Bool → Hp → Prop} (h : ta σ H fun x H1 => ∃ k, x = .bl k ∧ Q k H1) : tTest ta σ H Q := h
theorem tb_go {ta : TE} {Q : Bool → Hp → Prop} (h : ta σ H fun x H1 => ∃ k, x = .bl k ∧ Q k H1) : tB ta σ H Q := h
theorem cutC {ta : TE} {tr : TA} {Q : List V → Hp → Prop} (P : VK) (h : ∀ Q' : VK, (∀ v H', P v H' → Q' v H') → ta σ H Q') (k : ∀ v H', P v H' → tr σ H' (fun xs H2 => Q (v :: xs) H2)) : tCons ta tr σ H Q := h _ k
/-- a statement by what holds behind it -/
theorem cutN (M : L2.St → Hp → Prop) (h : ∀ N' : L2.St → Hp → Prop, (∀ σ' H', M σ' H' → N' σ' H') → t { D with nx := N' } σ H) (k : ∀ σ' H', M σ' H' → u D σ' H') : tSeq t u D σ H := h _ k
theorem sq_set (h : te σ H fun x H1 => u D (σ.set i (some x)) H1) : tSeq (tAsg te (gName i)) u D σ H := h
theorem sq_drop (h : te σ H fun _ H1 => u D σ H1) : tSeq (tDrop te) u D σ H := h
theorem sq_if {t1 t2 : TS} (h : tt σ H fun b H1 => if b = true then t1 { D with nx := u D } σ H1 else t2 { D with nx := u D } σ H1) : tSeq (tIfS tt t1 t2) u D σ H := h
theorem sq_if0 {t1 : TS} (h : tt σ H fun b H1 => if b = true then t1 { D with nx := u D } σ H1 else u D σ H1) : tSeq (tIfS tt t1 tNext) u D σ H := h
theorem rt_ret (h : te σ H D.rt) : tRet te D σ H := h
theorem nx_set (h : te σ H fun x H1 => D.nx (σ.set i (some x)) H1) : tAsg te (gName i) D σ H := h
end

/-! ### comprehensions -/
/-- [e for x in xs], e giving ys place by place -/
theorem lc_mapL {K : PySem.W.Frag} {a D : Addr} {xs : List V} {j : Nat} {te : TE} {vs : List Nat} {σ : L2.St} {H1 : Hp} {Qd : Hp → Prop} (ys : List V) (hl : ys.length = xs.length) (hz : xs.length ≤ sizeLine) (hS : SqL K H1 a xs) (nD : H1 D = none)
    (hs : ∀ (i : Nat) (x y : V) (H' : Hp), xs[i]? = some x → ys[i]? = some y → Same H1 H' → Evs te ((wipe σ vs).set j (some x)) H' y) (hd : ∀ H', Same H1 H' → H' D = some (.lst ys) → Qd H')
    (hw : ∀ x : V, wipe ((wipe σ vs).set j (some x)) vs = wipe σ vs := by intro x; rfl) :
    ∃ W : Nat → Nat → Hp → Prop, (∃ m, W 0 m (upd H1 D (.lst []))) ∧ ∀ i m H, W i m H →
      ((Itl K a).stop i H ∧ Qd H) ∨ ((Itl K a).go i H ∧ ∃ Nx : Hp → Prop, (∀ H', Nx H' → ∃ m', m' < m ∧ W (i + 1) m' H') ∧ ∀ x H', (Itl K a).yld i H x H' → gName j x (wipe σ vs) H' fun σ2 H2 => wipe σ2 vs = wipe σ vs ∧ tYes σ2 H2 fun b H3 =>
        if b = true then te σ2 H3 fun y H4 => ∃ acc, H4 D = some (.lst acc) ∧ acc.length < sizeLine ∧ Nx (upd H4 D (.lst (acc ++ [y]))) else Nx H3) := by
  refine lc_list (xs := xs) (fun i H => Same H1 H ∧ H D = some (.lst (ys.take i))) ⟨same_new nD, ?_⟩ (fun i H _ hp => hp.1.seq hS) ?_ ?_
  · rw [upd_same, List.take_zero]
  · rintro i x H hx ⟨sm, eD⟩
    have hi : i < xs.length := (List.getElem?_eq_some_iff.mp hx).1
    have hy : ys[i]? = some (ys[i]'(by omega)) := List.getElem?_eq_getElem (by omega)
    refine ⟨hw x, ?_⟩
    unfold tYes
    dsimp only
    rw [if_pos rfl]
    refine hs i x _ H hx hy sm _ fun H4 s4 => ⟨ys.take i, s4 _ _ eD, ?_, ?_, ?_⟩
    · rw [List.length_take]
      omega
    · exact same_mut (sm.trans s4) nD
    · rw [upd_same, List.take_add_one, hy]
      rfl
  · rintro H ⟨sm, eD⟩
    refine hd H sm ?_
    rw [eD, ← hl, List.take_length]
/-- [e for x in xs if t] -/
theorem lc_filtL {K : PySem.W.Frag} {a D : Addr} {xs : List V} {j : Nat} {tt : TT} {te : TE} {vs : List Nat} {σ : L2.St} {H1 : Hp} {Qd : Hp → Prop} (f : V → Option V) (hz : xs.length ≤ sizeLine) (hS : SqL K H1 a xs) (nD : H1 D = none)
    (ht : ∀ (i : Nat) (x : V) (H' : Hp), xs[i]? = some x → Same H1 H' → Evt tt ((wipe σ vs).set j (some x)) H' (f x).isSome) (hs : ∀ (i : Nat) (x y : V) (H' : Hp), xs[i]? = some x → f x = some y → Same H1 H' → Evs te ((wipe σ vs).set j (some x)) H' y)
    (hd : ∀ H', Same H1 H' → H' D = some (.lst (xs.filterMap f)) → Qd H') (hw : ∀ x : V, wipe ((wipe σ vs).set j (some x)) vs = wipe σ vs := by intro x; rfl) :
    ∃ W : Nat → Nat → Hp → Prop, (∃ m, W 0 m (upd H1 D (.lst []))) ∧ ∀ i m H, W i m H →
      ((Itl K a).stop i H ∧ Qd H) ∨ ((Itl K a).go i H ∧ ∃ Nx : Hp → Prop, (∀ H', Nx H' → ∃ m', m' < m ∧ W (i + 1) m' H') ∧ ∀ x H', (Itl K a).yld i H x H' → gName j x (wipe σ vs) H' fun σ2 H2 => wipe σ2 vs = wipe σ vs ∧ tt σ2 H2 fun b H3 =>
        if b = true then te σ2 H3 fun y H4 => ∃ acc, H4 D = some (.lst acc) ∧ acc.length < sizeLine ∧ Nx (upd H4 D (.lst (acc ++ [y]))) else Nx H3) := by
  refine lc_list (xs := xs) (fun i H => Same H1 H ∧ H D = some (.lst ((xs.take i).filterMap f))) ⟨same_new nD, ?_⟩ (fun i H _ hp => hp.1.seq hS) ?_ ?_
  · rw [upd_same, List.take_zero]
    rfl
  · rintro i x H hx ⟨sm, eD⟩
    have hi : i < xs.length := (List.getElem?_eq_some_iff.mp hx).1
    have et : xs.take (i + 1) = xs.take i ++ [x] := by rw [List.take_add_one, hx]; rfl
    refine ⟨hw x, ht i x H hx sm _ fun H3 s3 => ?_⟩
    cases e : f x with
    | none =>
      refine iteF ⟨sm.trans s3, ?_⟩
      rw [et, List.filterMap_append]
      rw [s3 _ _ eD]
      simp [e]
    | some y =>
      refine iteT ?_
      refine hs i x y H3 hx e (sm.trans s3) _ fun H4 s4 => ⟨(xs.take i).filterMap f, s4 _ _ (s3 _ _ eD), ?_, ?_, ?_⟩
      · refine Nat.lt_of_le_of_lt (List.length_filterMap_le _ _) ?_
        rw [List.length_take]
        omega
      · exact same_mut ((sm.trans s3).trans s4) nD
      · rw [upd_same, et, List.filterMap_append]
        simp [e]
  · rintro H ⟨sm, eD⟩
    refine hd H sm ?_
    rw [eD, List.take_length]
/-- [e for i in range(..)] -/
theorem lc_mapR {D : Addr} {lo : Int} {n j : Nat} {te : TE} {vs : List Nat} {σ : L2.St} {H1 : Hp} {Qd : Hp → Prop} (F : Nat → V) (hz : n ≤ sizeLine) (nD : H1 D = none)
    (hs : ∀ i H', i < n → Same H1 H' → Evs te ((wipe σ vs).set j (some (.int (lo + i)))) H' (F i)) (hd : ∀ H', Same H1 H' → H' D = some (.lst ((List.range n).map F)) → Qd H')
    (hw : ∀ x : V, wipe ((wipe σ vs).set j (some x)) vs = wipe σ vs := by intro x; rfl) :
    ∃ W : Nat → Nat → Hp → Prop, (∃ m, W 0 m (upd H1 D (.lst []))) ∧ ∀ i m H, W i m H →
      ((Itr lo n).stop i H ∧ Qd H) ∨ ((Itr lo n).go i H ∧ ∃ Nx : Hp → Prop, (∀ H', Nx H' → ∃ m', m' < m ∧ W (i + 1) m' H') ∧ ∀ x H', (Itr lo n).yld i H x H' → gName j x (wipe σ vs) H' fun σ2 H2 => wipe σ2 vs = wipe σ vs ∧ tYes σ2 H2 fun b H3 =>
        if b = true then te σ2 H3 fun y H4 => ∃ acc, H4 D = some (.lst acc) ∧ acc.length < sizeLine ∧ Nx (upd H4 D (.lst (acc ++ [y]))) else Nx H3) := by
  refine lc_range (lo := lo) (n := n) (fun i H => Same H1 H ∧ H D = some (.lst ((List.range i).map F))) ⟨same_new nD, ?_⟩ ?_ ?_
  · rw [upd_same]
    rfl
  · rintro i H hi ⟨sm, eD⟩
    refine ⟨hw _, ?_⟩
    unfold tYes
    dsimp only
    rw [if_pos rfl]
    refine hs i H hi sm _ fun H4 s4 => ⟨(List.range i).map F, s4 _ _ eD, ?_, ?_, ?_⟩
    · rw [List.length_map, List.length_range]
      omega
    · exact same_mut (sm.trans s4) nD
    · rw [upd_same, List.range_succ, List.map_append]
      rfl
  · rintro H ⟨sm, eD⟩
    exact hd H sm eD

/-! ### data -/
/-- what repr, ==, isinstance may be asked of: data, or an empty dict -/
inductive Av (K : PySem.W.Frag) (H : Hp) : V → Option PyData → Prop where
  | d {v : V} {d : PyData} : Dp K H v d → SeqAt.shaped d = true → Av K H v (some d)
  | e {a : Addr} : H a = some (.dK []) → Av K H (.ref a) none
theorem SqL.same {K : PySem.W.Frag} {H H' : Hp} {a : Addr} {xs : List V} (s : Same H H') (h : SqL K H a xs) : SqL K H' a xs := s.seq h
theorem SqT.same {K : PySem.W.Frag} {H H' : Hp} {a : Addr} {xs : List V} (s : Same H H') (h : SqT K H a xs) : SqT K H' a xs := by
  rcases h with (h | ⟨o, h⟩) | h
  · exact .inl (.inl (s _ _ h))
  · exact .inl (.inr ⟨o, s _ _ h⟩)
  · exact .inr h
mutual
theorem Dp.same {K : PySem.W.Frag} {H H' : Hp} (s : Same H H') : ∀ (d : PyData) (v : V), Dp K H v d → Dp K H' v d
  | .none, _, .non => .non
  | .bool b, _, .bl _ => .bl b
  | .int i, _, .int _ => .int i
  | .str x, _, .str _ => .str x
  | .list ds, _, .lst h ha => .lst (s.seq h) (DpAll.same s ds _ ha)
  | .tuple ds, _, .tup h ha => .tup (SqT.same s h) (DpAll.same s ds _ ha)
  | .dict _, _, h => by cases h
theorem DpAll.same {K : PySem.W.Frag} {H H' : Hp} (s : Same H H') : ∀ (ds : List PyData) (vs : List V), DpAll K H vs ds → DpAll K H' vs ds
  | [], _, .nil => .nil
  | d :: ds, _, .cons h1 h2 => .cons (Dp.same s d _ h1) (DpAll.same s ds _ h2)
end
theorem Av.same {K : PySem.W.Frag} {H H' : Hp} {v : V} {o : Option PyData} (s : Same H H') (h : Av K H v o) : Av K H' v o := by
  cases h with
  | d h1 h2 => exact .d (Dp.same s _ _ h1) h2
  | e h1 => exact .e (s _ _ h1)
theorem dpAll_get {K : PySem.W.Frag} {H : Hp} : ∀ {ds : List PyData} {vs : List V} {i : Nat} {v : V}, DpAll K H vs ds → vs[i]? = some v → ∃ d, ds[i]? = some d ∧ Dp K H v d
  | _, _, _, _, .nil, h => by simp at h
  | d :: _, _, 0, _, .cons h1 _, h => ⟨d, rfl, by simp at h; rw [← h]; exact h1⟩
  | _ :: _, _, i + 1, _, .cons _ h2, h => by
    obtain ⟨d, e, q⟩ := dpAll_get (i := i) h2 (by simpa using h)
    exact ⟨d, by simpa using e, q⟩
theorem dpAll_len {K : PySem.W.Frag} {H : Hp} : ∀ {ds : List PyData} {vs : List V}, DpAll K H vs ds → vs.length = ds.length
  | _, _, .nil => rfl
  | _, _, .cons _ h => by rw [List.length_cons, List.length_cons, dpAll_len h]
theorem dpAll_ints {K : PySem.W.Frag} {H : Hp} : ∀ ns : List Int, DpAll K H (iV ns) (ns.map PyData.int)
  | [] => .nil
  | n :: ns => .cons (.int n) (dpAll_ints ns)
theorem dp_ints {K : PySem.W.Frag} {H : Hp} {a : Addr} {ns : List Int} (h : IL H a ns) : Dp K H (.ref a) (.list (ns.map .int)) := .lst h.seq (dpAll_ints ns)
theorem canLay_ints : ∀ ns : List Int, PyData.canLayAll0 (ns.map PyData.int) = true
  | [] => by simp [PyData.canLayAll0]
  | n :: ns => by simp [PyData.canLayAll0, PyData.canLay0, canLay_ints ns]
theorem depth_ints : ∀ ns : List Int, PyData.depthAll (ns.map PyData.int) = 0
  | [] => by simp [PyData.depthAll]
  | n :: ns => by simp [PyData.depthAll, PyData.depth, depth_ints ns]
theorem shaped_ints (ns : List Int) : SeqAt.shaped (.list (ns.map .int)) = true := by
  unfold SeqAt.shaped
  rw [PyData.canLay0, canLay_ints, PyData.depth, depth_ints]
  decide
theorem eqv_ints : ∀ ns ms : List Int, PyData.eqvAll (ns.map .int) (ms.map .int) = decide (ns = ms)
  | [], [] => by simp [PyData.eqvAll]
  | [], _ :: _ => by simp [PyData.eqvAll]
  | _ :: _, [] => by simp [PyData.eqvAll]
  | n :: ns, m :: ms => by
    simp only [List.map_cons, PyData.eqvAll, PyData.eqv, eqv_ints ns ms]
    by_cases h : n = m <;> simp [h]
/-- a value's class -/
def tyV (K : PySem.W.Frag) (H : Hp) (v : V) (o : Option PyData) : Value := match o with
  | none => .type "dict"
  | some .none => .type "NoneType"
  | some (.bool _) => .type "bool"
  | some (.int _) => .type "int"
  | some (.str _) => .type "str"
  | some (.list _) => .type "list"
  | some (.tuple _) => .type "tuple"
  | some (.dict _) => .type "dict"
end Wc

/-! isinstance of data; sizes of what repr shows. -/
namespace Wc
open PySem PySem.Spec PyProof.Rows L2
def cls : Option PyData → String
  | Option.none => "dict"
  | some .none => "NoneType"
  | some (.bool _) => "bool"
  | some (.int _) => "int"
  | some (.str _) => "str"
  | some (.list _) => "list"
  | some (.tuple _) => "tuple"
  | some (.dict _) => "dict"
theorem SqL.ty {K : PySem.W.Frag} {H : Hp} {a : Addr} {xs : List V} (h : SqL K H a xs) : TyX K H (.ref a) (.type "list") := by
  rcases h with (h | ⟨o, h⟩) | ⟨o, its, n, h, c, _⟩
  · exact .base (.lst h)
  · exact .base (.frz h)
  · exact .kList h c
theorem SqT.ty {K : PySem.W.Frag} {H : Hp} {a : Addr} {xs : List V} (h : SqT K H a xs) : TyX K H (.ref a) (.type "tuple") := by
  rcases h with (h | ⟨o, h⟩) | ⟨o, its, n, h, c, _⟩
  · exact .base (.tup h)
  · exact .fTuple h
  · exact .kTuple h c
theorem Av.ty {K : PySem.W.Frag} {H : Hp} {v : V} {o : Option PyData} (h : Av K H v o) : TyX K H v (.type (cls o)) := by
  cases h with
  | e h => exact .base (.dK h)
  | d h _ =>
    cases h with
    | non => exact .base .non
    | bl b => exact .base (.bl b)
    | int i => exact .base (.int i)
    | str x => exact .base (.str x)
    | lst h _ => exact SqL.ty h
    | tup h _ => exact SqT.ty h
def isI (o : Option PyData) (n : String) : Bool := (kitB (cls o) n).getD false
section
variable {K : PySem.W.Frag}
theorem isi_cls {n : String} (h : ∀ m ∈ ["dict", "NoneType", "bool", "int", "str", "list", "tuple"], (kitB m n).isSome = true) (o : Option PyData) : PySem.W.kitOne K (.type (cls o)) (.type n) = some (isI o n) := by
  refine kit_ty ?_
  have hm : cls o ∈ ["dict", "NoneType", "bool", "int", "str", "list", "tuple"] := by
    cases o with
    | none => simp [cls]
    | some d => cases d <;> simp [cls]
  obtain ⟨b, e⟩ := Option.isSome_iff_exists.mp (h _ hm)
  unfold isI
  rw [e]
  rfl
theorem isi_int (o : Option PyData) : PySem.W.kitOne K (.type (cls o)) (.type "int") = some (isI o "int") := isi_cls (by decide +kernel) o
theorem isi_bool (o : Option PyData) : PySem.W.kitOne K (.type (cls o)) (.type "bool") = some (isI o "bool") := isi_cls (by decide +kernel) o
theorem isi_list (o : Option PyData) : PySem.W.kitOne K (.type (cls o)) (.type "list") = some (isI o "list") := isi_cls (by decide +kernel) o
theorem isi_tuple (o : Option PyData) : PySem.W.kitOne K (.type (cls o)) (.type "tuple") = some (isI o "tuple") := isi_cls (by decide +kernel) o
theorem isi_str (o : Option PyData) : PySem.W.kitOne K (.type (cls o)) (.type "str") = some (isI o "str") := isi_cls (by decide +kernel) o
end
theorem isI_int : ∀ o, isI o "int" = (match o with | some (.int _) => true | some (.bool _) => true | _ => false)
  | Option.none => by decide +kernel
  | some .none => by show (kitB "NoneType" "int").getD false = false; decide +kernel
  | some (.bool _) => by show (kitB "bool" "int").getD false = true; decide +kernel
  | some (.int _) => by show (kitB "int" "int").getD false = true; decide +kernel
  | some (.str _) => by show (kitB "str" "int").getD false = false; decide +kernel
  | some (.list _) => by show (kitB "list" "int").getD false = false; decide +kernel
  | some (.tuple _) => by show (kitB "tuple" "int").getD false = false; decide +kernel
  | some (.dict _) => by show (kitB "dict" "int").getD false = false; decide +kernel
theorem isI_bool : ∀ o, isI o "bool" = (match o with | some (.bool _) => true | _ => false)
  | Option.none => by decide +kernel
  | some .none => by show (kitB "NoneType" "bool").getD false = false; decide +kernel
  | some (.bool _) => by show (kitB "bool" "bool").getD false = true; decide +kernel
  | some (.int _) => by show (kitB "int" "bool").getD false = false; decide +kernel
  | some (.str _) => by show (kitB "str" "bool").getD false = false; decide +kernel
  | some (.list _) => by show (kitB "list" "bool").getD false = false; decide +kernel
  | some (.tuple _) => by show (kitB "tuple" "bool").getD false = false; decide +kernel
  | some (.dict _) => by show (kitB "dict" "bool").getD false = false; decide +kernel
theorem isI_list : ∀ o, isI o "list" = (match o with | some (.list _) => true | _ => false)
  | Option.none => by decide +kernel
  | some .none => by show (kitB "NoneType" "list").getD false = false; decide +kernel
  | some (.bool _) => by show (kitB "bool" "list").getD false = false; decide +kernel
  | some (.int _) => by show (kitB "int" "list").getD false = false; decide +kernel
  | some (.str _) => by show (kitB "str" "list").getD false = false; decide +kernel
  | some (.list _) => by show (kitB "list" "list").getD false = true; decide +kernel
  | some (.tuple _) => by show (kitB "tuple" "list").getD false = false; decide +kernel
  | some (.dict _) => by show (kitB "dict" "list").getD false = false; decide +kernel
theorem isI_tuple : ∀ o, isI o "tuple" = (match o with | some (.tuple _) => true | _ => false)
  | Option.none => by decide +kernel
  | some .none => by show (kitB "NoneType" "tuple").getD false = false; decide +kernel
  | some (.bool _) => by show (kitB "bool" "tuple").getD false = false; decide +kernel
  | some (.int _) => by show (kitB "int" "tuple").getD false = false; decide +kernel
  | some (.str _) => by show (kitB "str" "tuple").getD false = false; decide +kernel
  | some (.list _) => by show (kitB "list" "tuple").getD false = false; decide +kernel
  | some (.tuple _) => by show (kitB "tuple" "tuple").getD false = true; decide +kernel
  | some (.dict _) => by show (kitB "dict" "tuple").getD false = false; decide +kernel
theorem isI_str : ∀ o, isI o "str" = (match o with | some (.str _) => true | _ => false)
  | Option.none => by decide +kernel
  | some .none => by show (kitB "NoneType" "str").getD false = false; decide +kernel
  | some (.bool _) => by show (kitB "bool" "str").getD false = false; decide +kernel
  | some (.int _) => by show (kitB "int" "str").getD false = false; decide +kernel
  | some (.str _) => by show (kitB "str" "str").getD false = true; decide +kernel
  | some (.list _) => by show (kitB "list" "str").getD false = false; decide +kernel
  | some (.tuple _) => by show (kitB "tuple" "str").getD false = false; decide +kernel
  | some (.dict _) => by show (kitB "dict" "str").getD false = false; decide +kernel

/-! ### how long a shown thing may be -/
mutual
def wt : PyData → Nat
  | .none => 4
  | .bool _ => 5
  | .int _ => 2000
  | .str x => 12 * x.length + 2
  | .list xs => wtAll xs + 3
  | .tuple xs => wtAll xs + 3
  | .dict _ => 0
def wtAll : List PyData → Nat
  | [] => 0
  | x :: xs => wt x + 2 + wtAll xs
end
mutual
/-- what repr shows without fault -/
def okD : PyData → Bool
  | .none => true
  | .bool _ => true
  | .int i => decide (i.natAbs.log2 < 1920)
  | .str x => x.cps.toList.all fun c => decide (c < 16 ^ 8)
  | .list xs => okAll xs
  | .tuple xs => okAll xs
  | .dict _ => false
def okAll : List PyData → Bool
  | [] => true
  | x :: xs => okD x && okAll xs
end
theorem shownAll_len : ∀ xs : List PyData, (PyData.shownAll xs).length = xs.length
  | [] => by simp [PyData.shownAll]
  | x :: xs => by simp [PyData.shownAll, shownAll_len xs]
mutual
theorem okD_show : ∀ d : PyData, okD d = true → d.showable = true ∧ d.shown.length ≤ wt d
  | .none, _ => by
    simp only [PyData.showable, PyData.shown, wt, true_and]
    decide
  | .bool b, _ => by
    simp only [PyData.showable, PyData.shown, wt, true_and]
    cases b <;> decide
  | .int i, h => by
    have h' : i.natAbs.log2 < 1920 := of_decide_eq_true (by simpa only [okD] using h)
    refine ⟨by simp only [PyData.showable]; exact decide_eq_true h', ?_⟩
    simp only [PyData.shown, wt]
    have := int_text_len_1921 h'
    exact Nat.le_trans this (by decide)
  | .str x, h => by
    refine ⟨by simp only [PyData.showable], ?_⟩
    simp only [PyData.shown, wt]
    have h' : ∀ c ∈ x.cps.toList, c < 16 ^ 8 := fun c hc => of_decide_eq_true (List.all_eq_true.mp (by simpa only [okD] using h) c hc)
    have := StrLaws.reprText_len x h'
    omega
  | .list xs, h => by
    obtain ⟨h1, h2⟩ := okAll_show xs (by simpa only [okD] using h)
    refine ⟨by simpa only [PyData.showable] using h1, ?_⟩
    simp only [PyData.shown, wt]
    have := listText_len_le (PyData.shownAll xs)
    rw [shownAll_len] at this
    omega
  | .tuple xs, h => by
    obtain ⟨h1, h2⟩ := okAll_show xs (by simpa only [okD] using h)
    refine ⟨by simpa only [PyData.showable] using h1, ?_⟩
    simp only [PyData.shown, wt]
    have := tupleText_len_le (PyData.shownAll xs)
    rw [shownAll_len] at this
    omega
  | .dict _, h => by simp [okD] at h
theorem okAll_show : ∀ xs : List PyData, okAll xs = true → PyData.showableAll xs = true ∧ ((PyData.shownAll xs).map (·.length)).sum + 2 * xs.length ≤ wtAll xs
  | [], _ => by simp [PyData.showableAll, PyData.shownAll, wtAll]
  | x :: xs, h => by
    have h' : okD x = true ∧ okAll xs = true := by simpa [okAll] using h
    obtain ⟨a1, a2⟩ := okD_show x h'.1
    obtain ⟨b1, b2⟩ := okAll_show xs h'.2
    refine ⟨by simp [PyData.showableAll, a1, b1], ?_⟩
    simp only [PyData.shownAll, wtAll, List.map_cons, List.sum_cons, List.length_cons]
    omega
end
theorem okAll_ints : ∀ ns : List Int, (∀ n ∈ ns, n.natAbs.log2 < 1920) → okAll (ns.map .int) = true
  | [], _ => by simp [okAll]
  | n :: ns, h => by
    simp only [List.map_cons, okAll, okD, Bool.and_eq_true, decide_eq_true_eq]
    exact ⟨h n (List.mem_cons_self ..), okAll_ints ns fun m hm => h m (List.mem_cons_of_mem _ hm)⟩
theorem wtAll_ints : ∀ ns : List Int, wtAll (ns.map .int) = 2002 * ns.length
  | [] => by simp [wtAll]
  | n :: ns => by
    simp only [List.map_cons, wtAll, wt, wtAll_ints ns, List.length_cons]
    omega
theorem log_small {n : Int} {k : Nat} (h : n.natAbs < 2 ^ k) (hk : 0 < k) (h2 : k ≤ 1920) : n.natAbs.log2 < 1920 := Nat.lt_of_lt_of_le (PySem.Flt.log2_lt_of hk h) h2
theorem sm_of {n : Int} (h : n.natAbs ≤ 65535) : n.natAbs < 2 ^ 1000 := Nat.lt_of_lt_of_le (show n.natAbs < 2 ^ 16 by omega) (Nat.pow_le_pow_right (by decide) (by decide))
/-- repr of data, as the walk asks it -/
theorem repr_d {K : PySem.W.Frag} {H : Hp} {Q : VK} {v : V} {d : PyData} (h : Dp K H v d) (ok : okD d = true) (hw : wt d ≤ 16000000) (hd : d.depth ≤ 60) (q : Q (.str d.shown) H) : rReprD K [v] H Q :=
  .inl ⟨v, d, rfl, h, (okD_show d ok).1, hd, Nat.le_trans (okD_show d ok).2 (Nat.le_trans hw (by decide)), q⟩
theorem repr_e {K : PySem.W.Frag} {H : Hp} {Q : VK} {a : Addr} (h : H a = some (.dK [])) (q : Q (.str (PyData.shown (.dict []))) H) : rReprD K [.ref a] H Q := .inr ⟨a, rfl, h, q⟩
theorem repr_ints {K : PySem.W.Frag} {H : Hp} {Q : VK} {a : Addr} {ns : List Int} (h : IL H a ns) (hs : ∀ n ∈ ns, n.natAbs < 2 ^ 1000) (hl : ns.length ≤ 5000) (q : Q (.str (PyData.shown (.list (ns.map .int)))) H) : rReprD K [.ref a] H Q := by
  refine repr_d (dp_ints h) ?_ ?_ ?_ q
  · simp only [okD]
    exact okAll_ints ns fun n hn => log_small (hs n hn) (by decide) (by decide)
  · simp only [wt, wtAll_ints]
    omega
  · simp only [PyData.depth, depth_ints]
    decide
end Wc

/-! Texts as lists of lengths: ends, totals; the pot of draws. -/
namespace Wc
open PySem PySem.Spec PyProof.Rows L2
/-! ### ends of words -/
/-- the ends of words that follow one another, the one before them ending at p -/
def endsFrom (p : Int) : List Int → List Int
  | [] => []
  | n :: ns => (p + (1 + n)) :: endsFrom (p + (1 + n)) ns
def endsOf (ns : List Int) : List Int := endsFrom (-1) ns
def total (ns : List Int) : Int := ns.sum + ns.length - 1
theorem endsFrom_len (p : Int) (ns : List Int) : (endsFrom p ns).length = ns.length := by
  induction ns generalizing p with
  | nil => rfl
  | cons n ns ih => simp only [endsFrom, List.length_cons, ih]
theorem endsOf_len (ns : List Int) : (endsOf ns).length = ns.length := endsFrom_len _ _
/-- the end of the i-th word, or what is ahead of the first -/
def lastFrom (p : Int) (ns : List Int) (i : Nat) : Int := p + (ns.take i).sum + ((ns.take i).length : Int)
def lastEnd (ns : List Int) (i : Nat) : Int := lastFrom (-1) ns i
theorem take_succ_get {α : Type} {ns : List α} {i : Nat} {z : α} (h : ns[i]? = some z) : ns.take (i + 1) = ns.take i ++ [z] := by
  rw [List.take_add_one, h]
  rfl
theorem lastFrom_succ {p : Int} {ns : List Int} {i : Nat} {z : Int} (h : ns[i]? = some z) : lastFrom p ns (i + 1) = lastFrom p ns i + (1 + z) := by
  unfold lastFrom
  rw [take_succ_get h, List.sum_append, List.length_append]
  simp
  omega
theorem endsFrom_get (p : Int) (ns : List Int) (i : Nat) (h : i < ns.length) : (endsFrom p ns)[i]? = some (lastFrom p ns (i + 1)) := by
  induction ns generalizing p i with
  | nil => simp at h
  | cons n ns ih =>
    cases i with
    | zero =>
      show some (p + (1 + n)) = some (lastFrom p (n :: ns) 1)
      unfold lastFrom
      simp
      omega
    | succ i =>
      show (endsFrom (p + (1 + n)) ns)[i]? = _
      rw [ih (p + (1 + n)) i (by simpa using h)]
      unfold lastFrom
      simp
      omega
theorem ends_get {ns : List Int} {i : Nat} {z : Int} (h : ns[i]? = some z) : (endsOf ns)[i]? = some (lastEnd ns (i + 1)) := endsFrom_get _ _ _ (List.getElem?_eq_some_iff.mp h).1
theorem lastEnd_succ {ns : List Int} {i : Nat} {z : Int} (h : ns[i]? = some z) : lastEnd ns (i + 1) = lastEnd ns i + (1 + z) := lastFrom_succ h
theorem ends_take {ns : List Int} {i : Nat} {z : Int} (h : ns[i]? = some z) : (endsOf ns).take i ++ [lastEnd ns (i + 1)] = (endsOf ns).take (i + 1) := by
  rw [take_succ_get (ends_get h)]

/-! ### values that are texts -/
def isLen : PyData → Bool
  | .int i => decide (1 ≤ i)
  | _ => false
def lenOf : PyData → Int
  | .int i => i
  | _ => 0
/-- a list of one or more lengths with at most 600 characters -/
def areLengths : Option PyData → Bool
  | some (.list ds) => !ds.isEmpty && ds.all isLen && decide (total (ds.map lenOf) ≤ 600)
  | _ => false
/-- a text -/
def Txt' (ns : List Int) : Prop := ns ≠ [] ∧ (∀ n ∈ ns, 1 ≤ n) ∧ total ns ≤ 600
theorem lens_ints (ns : List Int) : (ns.map PyData.int).map lenOf = ns := by
  rw [List.map_map]
  exact List.map_id'' (fun _ => rfl) ns
theorem areLengths_ints (ns : List Int) : areLengths (some (.list (ns.map .int))) = true ↔ Txt' ns := by
  unfold areLengths Txt'
  dsimp only
  rw [lens_ints]
  simp only [Bool.and_eq_true, Bool.not_eq_true', decide_eq_true_eq, List.all_map, List.all_eq_true, List.isEmpty_eq_false_iff, ne_eq, List.map_eq_nil_iff]
  constructor
  · rintro ⟨⟨a, b⟩, c⟩
    exact ⟨a, fun n hn => by have := b n hn; simpa [isLen] using this, c⟩
  · rintro ⟨a, b, c⟩
    exact ⟨⟨a, fun n hn => by have := b n hn; simpa [isLen] using this⟩, c⟩
theorem total_nonneg_len : ∀ ns : List Int, (∀ n ∈ ns, 1 ≤ n) → (ns.length : Int) ≤ ns.sum
  | [], _ => by simp
  | n :: ns, h => by
    have h1 := h n (List.mem_cons_self ..)
    have h2 := total_nonneg_len ns fun m hm => h m (List.mem_cons_of_mem _ hm)
    simp only [List.length_cons, List.sum_cons]
    omega
theorem mem_le_sum : ∀ ns : List Int, (∀ n ∈ ns, 1 ≤ n) → ∀ n ∈ ns, n ≤ ns.sum
  | [], _, n, hn => by cases hn
  | m :: ns, h, n, hn => by
    have h1 := h m (List.mem_cons_self ..)
    have h2 := total_nonneg_len ns fun m hm => h m (List.mem_cons_of_mem _ hm)
    simp only [List.sum_cons]
    rcases List.mem_cons.mp hn with rfl | hn
    · omega
    · have := mem_le_sum ns (fun m hm => h m (List.mem_cons_of_mem _ hm)) n hn
      omega
theorem Txt'.len {ns : List Int} (h : Txt' ns) : ns.length ≤ 300 := by
  have := total_nonneg_len ns h.2.1
  have := h.2.2
  unfold total at this
  omega
theorem Txt'.le {ns : List Int} (h : Txt' ns) : ∀ n ∈ ns, n ≤ 600 := by
  intro n hn
  have h1 := mem_le_sum ns h.2.1 n hn
  have h2 := h.2.2
  have h3 : 0 < ns.length := List.length_pos_iff.mpr h.1
  unfold total at h2
  omega
theorem dpAll_lens {K : PySem.W.Frag} {H : Hp} : ∀ {ds : List PyData} {xs : List V}, DpAll K H xs ds → ds.all isLen = true → xs = iV (ds.map lenOf)
  | _, _, .nil, _ => rfl
  | d :: ds, _, .cons h1 h2, c => by
    rw [List.all_cons, Bool.and_eq_true] at c
    have ih := dpAll_lens h2 c.2
    cases h1 with
    | int i => rw [ih]; rfl
    | non => cases c.1
    | bl _ => cases c.1
    | str _ => cases c.1
    | lst _ _ => cases c.1
    | tup _ _ => cases c.1
theorem av_ints {K : PySem.W.Frag} {H : Hp} {a : Addr} {ns : List Int} (h : SqL K H a (iV ns)) : Av K H (.ref a) (some (.list (ns.map .int))) := .d (.lst h (dpAll_ints ns)) (shaped_ints ns)
theorem av_text {K : PySem.W.Frag} {H : Hp} {v : V} {o : Option PyData} (h : Av K H v o) (c : areLengths o = true) : ∃ a ns, v = .ref a ∧ SqL K H a (iV ns) ∧ o = some (.list (ns.map .int)) ∧ Txt' ns := by
  cases h with
  | e _ => cases c
  | d h hs =>
    cases h with
    | non => cases c
    | bl _ => cases c
    | int _ => cases c
    | str _ => cases c
    | tup _ _ => cases c
    | @lst a xs ds hS ha =>
      have c' := c
      unfold areLengths at c
      rw [Bool.and_eq_true, Bool.and_eq_true] at c
      have e := dpAll_lens ha c.1.2
      have ed : (ds.map lenOf).map PyData.int = ds := by
        rw [List.map_map]
        have hall : ∀ d ∈ ds, isLen d = true := List.all_eq_true.mp c.1.2
        conv => rhs; rw [← List.map_id ds]
        refine List.map_congr_left fun d hd => ?_
        have := hall d hd
        cases d <;> first | rfl | cases this
      refine ⟨a, ds.map lenOf, rfl, e ▸ hS, by rw [ed], ?_⟩
      rw [← ed] at c'
      exact (areLengths_ints _).mp c'
theorem fresh_of {H H' : Hp} {p : Addr} (s : Same H H') (h : H' p = none) : H p = none := s.free h

/-! ### the pot of draws -/
/-- the pot stands at a: less than so many mixed draws so far -/
def Pot (H : Hp) (a : Addr) (n : Nat) : Prop := ∃ p0 p1 p2 : Int, H a = some (.lst [.int p0, .int p1, .int p2]) ∧ p1.natAbs < 2 ^ 200 ∧ 0 ≤ p2 ∧ p2 ≤ n
theorem Pot.some {H : Hp} {a : Addr} {n : Nat} (h : Pot H a n) : ∃ o, H a = some o := let ⟨_, _, _, h, _⟩ := h; ⟨_, h⟩
theorem Pot.ne {H : Hp} {a p : Addr} {n : Nat} (h : Pot H a n) (hp : H p = none) : p ≠ a := by
  obtain ⟨o, e⟩ := h.some
  exact (ne_of_none e hp).symm
theorem Pot.same {H H' : Hp} {a : Addr} {n : Nat} (s : Same H H') (h : Pot H a n) : Pot H' a n := let ⟨p0, p1, p2, h, r⟩ := h; ⟨p0, p1, p2, s _ _ h, r⟩
theorem Pot.mono {H : Hp} {a : Addr} {n m : Nat} (h : Pot H a n) (l : n ≤ m) : Pot H a m := let ⟨p0, p1, p2, h, h1, h2, h3⟩ := h; ⟨p0, p1, p2, h, h1, h2, by omega⟩
/-! ### more of texts -/
theorem repr_same_ne {z : Str} : (!decide (V.str z = V.str z)) = false := by simp
theorem txt_of {ws : List Int} {t : Int} (h0 : ws ≠ []) (h1 : ∀ w ∈ ws, 1 ≤ w) (h2 : total ws = t) (h3 : t ≤ 600) : Txt' ws := ⟨h0, h1, by omega⟩
theorem Txt'.small {ws : List Int} (h : Txt' ws) : ∀ m ∈ ws, m.natAbs < 2 ^ 1000 := by
  intro m hm
  have h1 := h.2.1 m hm
  have h2 := h.le m hm
  exact sm_of (by omega)
theorem Txt'.yes {ws : List Int} (h : Txt' ws) : areLengths (some (.list (ws.map .int))) = true := (areLengths_ints ws).mpr h
theorem lenLine {ws : List Int} (h : ws.length ≤ 5000) : ∀ ds, some (PyData.list (ws.map .int)) = some (.list ds) → ds.length ≤ sizeLine := by
  intro ds e
  injection e with e
  injection e with e
  rw [← e, List.length_map]
  exact Nat.le_trans h (by decide)
theorem ends_rng : ∀ (ns : List Int) (p : Int), (∀ n ∈ ns, 1 ≤ n) → ∀ e ∈ endsFrom p ns, p < e ∧ e ≤ p + ns.sum + ns.length
  | [], _, _, e, he => by cases he
  | n :: ns, p, h, e, he => by
    have h1 := h n (List.mem_cons_self ..)
    have hn : ∀ m ∈ ns, 1 ≤ m := fun m hm => h m (List.mem_cons_of_mem _ hm)
    have h2 := total_nonneg_len ns hn
    simp only [endsFrom, List.mem_cons] at he
    simp only [List.sum_cons, List.length_cons]
    rcases he with rfl | he
    · omega
    · have := ends_rng ns _ hn e he
      omega
theorem Txt'.ends {ns : List Int} (h : Txt' ns) : ∀ e ∈ (endsOf ns).dropLast, e.natAbs < 2 ^ 1000 := by
  intro e he
  have h1 := ends_rng ns (-1) h.2.1 e (List.dropLast_subset _ he)
  have h2 := h.2.2
  unfold total at h2
  exact sm_of (by omega)
theorem eqvL (ns ms : List Int) : PyData.eqv (.list (ns.map .int)) (.list (ms.map .int)) = decide (ns = ms) := by simp only [PyData.eqv, eqv_ints]
def shownO : Option PyData → Str
  | some d => d.shown
  | none => PyData.shown (.dict [])
theorem rep_ints (z : Int) (k : Int) : (List.replicate k.toNat [V.int z]).flatten = iV (List.replicate k.toNat z) := by
  induction k.toNat with
  | zero => rfl
  | succ n ih => rw [List.replicate_succ, List.replicate_succ, List.flatten_cons, ih]; rfl
end Wc

/-! zip and enumerate in loops and comprehensions; how texts are wrapped. -/
namespace Wc
open PySem PySem.Spec PyProof.Rows L2

/-! ### zip, enumerate -/
/-- [e for x, y in zip(xs, ys)], lists of one length -/
theorem lc_mapZ {K : PySem.W.Frag} {a b D : Addr} {xs ys : List V} {j k : Nat} {te : TE} {vs : List Nat} {σ : L2.St} {H1 : Hp} {Qd : Hp → Prop} (zs : List V) (hl : ys.length = xs.length) (hz : zs.length = xs.length) (h5 : xs.length ≤ sizeLine) (hA : SqL K H1 a xs) (hB : SqL K H1 b ys) (nD : H1 D = none)
    (hs : ∀ (i : Nat) (x y z : V) (H' : Hp), xs[i]? = some x → ys[i]? = some y → zs[i]? = some z → Same H1 H' → Evs te (((wipe σ vs).set j (some x)).set k (some y)) H' z) (hd : ∀ H', Same H1 H' → H' D = some (.lst zs) → Qd H')
    (hw : ∀ x y : V, wipe (((wipe σ vs).set j (some x)).set k (some y)) vs = wipe σ vs := by intro x y; rfl) :
    ∃ W : Nat → Nat → Hp → Prop, (∃ m, W 0 m (upd H1 D (.lst []))) ∧ ∀ i m H, W i m H →
      ((Itz K a b).stop i H ∧ Qd H) ∨ ((Itz K a b).go i H ∧ ∃ Nx : Hp → Prop, (∀ H', Nx H' → ∃ m', m' < m ∧ W (i + 1) m' H') ∧ ∀ x H', (Itz K a b).yld i H x H' → gTup K 2 (gCons (gName j) (gCons (gName k) gNil)) x (wipe σ vs) H' fun σ2 H2 => wipe σ2 vs = wipe σ vs ∧ tYes σ2 H2 fun b H3 =>
        if b = true then te σ2 H3 fun y H4 => ∃ acc, H4 D = some (.lst acc) ∧ acc.length < sizeLine ∧ Nx (upd H4 D (.lst (acc ++ [y]))) else Nx H3) := by
  refine lc_it (n := xs.length) (walk_zip (xs := xs) (ys := ys) (by rw [hl, Nat.min_self])) (fun i H => Same H1 H ∧ H D = some (.lst (zs.take i))) ⟨same_new nD, ?_⟩ (fun i H _ hp => ⟨hp.1.seq hA, hp.1.seq hB⟩) ?_ ?_
  · rw [upd_same, List.take_zero]
  · rintro i v H H' hi ⟨sm, eD⟩ ⟨T, x, y, rfl, nT, rfl, hx, hy⟩
    have hzz : zs[i]? = some (zs[i]'(by omega)) := List.getElem?_eq_getElem (by omega)
    have sT : Same H (upd H T (.tup [x, y])) := same_new nT
    refine ⟨T, [x, y], rfl, .inl (.inl upd_same), rfl, x, [y], rfl, y, [], rfl, rfl, hw x y, ?_⟩
    unfold tYes
    dsimp only
    rw [if_pos rfl]
    refine hs i x y _ _ hx hy hzz (sm.trans sT) _ fun H4 s4 => ⟨zs.take i, s4 _ _ (sT _ _ eD), ?_, ?_, ?_⟩
    · rw [List.length_take]
      omega
    · exact same_mut ((sm.trans sT).trans s4) nD
    · rw [upd_same, List.take_add_one, hzz]
      rfl
  · rintro H ⟨sm, eD⟩
    refine hd H sm ?_
    rw [eD, ← hz, List.take_length]
/-- [e for i, x in enumerate(xs)] -/
theorem lc_mapE {K : PySem.W.Frag} {a D : Addr} {xs : List V} {j k : Nat} {te : TE} {vs : List Nat} {σ : L2.St} {H1 : Hp} {Qd : Hp → Prop} (zs : List V) (hz : zs.length = xs.length) (h5 : xs.length ≤ sizeLine) (hA : SqL K H1 a xs) (nD : H1 D = none)
    (hs : ∀ (i : Nat) (x z : V) (H' : Hp), xs[i]? = some x → zs[i]? = some z → Same H1 H' → Evs te (((wipe σ vs).set j (some (.int (i : Nat)))).set k (some x)) H' z) (hd : ∀ H', Same H1 H' → H' D = some (.lst zs) → Qd H')
    (hw : ∀ x y : V, wipe (((wipe σ vs).set j (some x)).set k (some y)) vs = wipe σ vs := by intro x y; rfl) :
    ∃ W : Nat → Nat → Hp → Prop, (∃ m, W 0 m (upd H1 D (.lst []))) ∧ ∀ i m H, W i m H →
      ((Ite K a).stop i H ∧ Qd H) ∨ ((Ite K a).go i H ∧ ∃ Nx : Hp → Prop, (∀ H', Nx H' → ∃ m', m' < m ∧ W (i + 1) m' H') ∧ ∀ x H', (Ite K a).yld i H x H' → gTup K 2 (gCons (gName j) (gCons (gName k) gNil)) x (wipe σ vs) H' fun σ2 H2 => wipe σ2 vs = wipe σ vs ∧ tYes σ2 H2 fun b H3 =>
        if b = true then te σ2 H3 fun y H4 => ∃ acc, H4 D = some (.lst acc) ∧ acc.length < sizeLine ∧ Nx (upd H4 D (.lst (acc ++ [y]))) else Nx H3) := by
  refine lc_it (n := xs.length) (walk_enum (xs := xs)) (fun i H => Same H1 H ∧ H D = some (.lst (zs.take i))) ⟨same_new nD, ?_⟩ (fun i H _ hp => hp.1.seq hA) ?_ ?_
  · rw [upd_same, List.take_zero]
  · rintro i v H H' hi ⟨sm, eD⟩ ⟨T, x, y, rfl, nT, rfl, hx, hy⟩
    have ex : V.int (i : Nat) = x := Option.some.inj hx
    subst ex
    have hzz : zs[i]? = some (zs[i]'(by omega)) := List.getElem?_eq_getElem (by omega)
    have sT : Same H (upd H T (.tup [V.int (i : Nat), y])) := same_new nT
    refine ⟨T, [V.int (i : Nat), y], rfl, .inl (.inl upd_same), rfl, _, [y], rfl, y, [], rfl, rfl, hw _ y, ?_⟩
    unfold tYes
    dsimp only
    rw [if_pos rfl]
    refine hs i y _ _ hy hzz (sm.trans sT) _ fun H4 s4 => ⟨zs.take i, s4 _ _ (sT _ _ eD), ?_, ?_, ?_⟩
    · rw [List.length_take]
      omega
    · exact same_mut ((sm.trans sT).trans s4) nD
    · rw [upd_same, List.take_add_one, hzz]
      rfl
  · rintro H ⟨sm, eD⟩
    refine hd H sm ?_
    rw [eD, ← hz, List.take_length]

/-! ### wrapping -/
/-- the ends of the lines, from the start of a line on -/
def wrapGo (w start : Int) : List Int → List Int
  | [] => []
  | [s] => [s]
  | s :: t :: r => if t > start + w then s :: wrapGo w (s + 1) (t :: r) else wrapGo w start (t :: r)
def wrappedEnds (stops : List Int) (w : Int) : List Int := wrapGo w 0 stops
/-- the lengths of lines with these ends, the first one from start on -/
def lenFrom (start : Int) : List Int → List Int
  | [] => []
  | e :: r => (e - start) :: lenFrom (e + 1) r
def lengthsOf (ends : List Int) : List Int := lenFrom 0 ends
def startsOf (ends : List Int) : List Int := 0 :: ends.dropLast.map (· + 1)
def wrapOf (ns : List Int) (w : Int) : List Int := lengthsOf (wrappedEnds (endsOf ns) w)
theorem lenFrom_len (p : Int) (es : List Int) : (lenFrom p es).length = es.length := by
  induction es generalizing p with
  | nil => rfl
  | cons e r ih => simp only [lenFrom, List.length_cons, ih]
theorem wrapGo_len (w p : Int) (es : List Int) : (wrapGo w p es).length ≤ es.length := by
  fun_induction wrapGo w p es with
  | case1 => simp
  | case2 => simp
  | case3 p s t r h ih => simp only [List.length_cons] at ih ⊢; omega
  | case4 p s t r h ih => simp only [List.length_cons] at ih ⊢; omega
theorem wrapGo_ne (w p s : Int) (r : List Int) : wrapGo w p (s :: r) ≠ [] := by
  induction r generalizing p s with
  | nil => simp [wrapGo]
  | cons t r ih =>
    unfold wrapGo
    split
    · simp
    · exact ih p t
/-- word by word: the lengths of the lines, c the length of the present one -/
def lineGo (w c : Int) : List Int → List Int
  | [] => [c]
  | n :: r => if c + 1 + n ≤ w then lineGo w (c + 1 + n) r else c :: lineGo w n r
theorem wrap_line (w : Int) (ns : List Int) (start c : Int) : lenFrom start (wrapGo w start ((start + c) :: endsFrom (start + c) ns)) = lineGo w c ns := by
  induction ns generalizing start c with
  | nil =>
    simp only [endsFrom, wrapGo, lenFrom, lineGo]
    congr 1
    omega
  | cons n ns ih =>
    simp only [endsFrom]
    unfold wrapGo lineGo
    by_cases h : c + 1 + n ≤ w
    · rw [if_neg (by omega), if_pos h]
      have := ih start (c + 1 + n)
      have e : start + c + (1 + n) = start + (c + 1 + n) := by omega
      rw [e]
      exact this
    · rw [if_pos (by omega), if_neg h]
      show (start + c - start) :: lenFrom (start + c + 1) _ = _
      have e1 : start + c - start = c := by omega
      have e2 : start + c + (1 + n) = start + c + 1 + n := by omega
      rw [e1, e2, ih (start + c + 1) n]
/-- one more word -/
def lineStep (w : Int) (acc : List Int) (n : Int) : List Int := match acc.getLast? with
  | some l => if l + 1 + n ≤ w then acc.dropLast ++ [l + 1 + n] else acc ++ [n]
  | none => [n]
theorem lineStep_snoc (w : Int) (acc : List Int) (c n : Int) : lineStep w (acc ++ [c]) n = if c + 1 + n ≤ w then acc ++ [c + 1 + n] else acc ++ [c] ++ [n] := by
  simp [lineStep]
theorem lines_fold (w : Int) (ns : List Int) (acc : List Int) (c : Int) : ns.foldl (lineStep w) (acc ++ [c]) = acc ++ lineGo w c ns := by
  induction ns generalizing acc c with
  | nil => rfl
  | cons n ns ih =>
    rw [List.foldl_cons, lineStep_snoc, lineGo]
    split
    · exact ih acc _
    · rw [ih (acc ++ [c]) n, List.append_assoc]
      rfl
/-- the wrap of the first i words, word by word -/
def lawWrap (ns : List Int) (w : Int) : List Int := ns.foldl (lineStep w) []
theorem lawWrap_cons (n : Int) (ns : List Int) (w : Int) : lawWrap (n :: ns) w = lineGo w n ns := by
  have := lines_fold w ns [] n
  simpa [lawWrap, lineStep] using this
theorem wrap_eq (ns : List Int) (w : Int) : wrapOf ns w = lawWrap ns w := by
  cases ns with
  | nil => rfl
  | cons n ns =>
    rw [lawWrap_cons]
    have := wrap_line w ns 0 n
    unfold wrapOf wrappedEnds lengthsOf endsOf
    simp only [endsFrom]
    have e : (-1 : Int) + (1 + n) = 0 + n := by omega
    rw [e]
    exact this
theorem lawWrap_snoc (ns : List Int) (n : Int) (w : Int) : lawWrap (ns ++ [n]) w = lineStep w (lawWrap ns w) n := by
  unfold lawWrap
  rw [List.foldl_append]
  rfl
theorem lineGo_total (w c : Int) (ns : List Int) : total (lineGo w c ns) = total (c :: ns) := by
  induction ns generalizing c with
  | nil => rfl
  | cons n ns ih =>
    unfold lineGo
    split
    · rw [ih]
      unfold total
      simp only [List.sum_cons, List.length_cons]
      omega
    · have := ih n
      unfold total at this ⊢
      simp only [List.sum_cons, List.length_cons] at this ⊢
      omega
theorem lineGo_pos (w c : Int) (ns : List Int) (hc : 1 ≤ c) (h : ∀ n ∈ ns, 1 ≤ n) : ∀ l ∈ lineGo w c ns, 1 ≤ l := by
  induction ns generalizing c with
  | nil =>
    intro l hl
    rw [List.mem_singleton.mp hl]
    exact hc
  | cons n ns ih =>
    have hn := h n (List.mem_cons_self ..)
    have hr := fun m hm => h m (List.mem_cons_of_mem n hm)
    unfold lineGo
    split
    · exact ih _ (by omega) hr
    · intro l hl
      rcases List.mem_cons.mp hl with rfl | hl
      · exact hc
      · exact ih n hn hr l hl
theorem lineGo_ne (w c : Int) (ns : List Int) : lineGo w c ns ≠ [] := by
  induction ns generalizing c with
  | nil => simp [lineGo]
  | cons n ns ih =>
    unfold lineGo
    split
    · exact ih _
    · simp
/-- the wrap of a text is a text of as many characters -/
theorem Txt'.wrap {ns : List Int} (h : Txt' ns) (w : Int) : Txt' (lawWrap ns w) ∧ total (lawWrap ns w) = total ns := by
  obtain ⟨h0, h1, h2⟩ := h
  cases ns with
  | nil => exact (h0 rfl).elim
  | cons n ns =>
    rw [lawWrap_cons]
    have e := lineGo_total w n ns
    exact ⟨⟨lineGo_ne _ _ _, lineGo_pos _ _ _ (h1 n (List.mem_cons_self ..)) fun m hm => h1 m (List.mem_cons_of_mem _ hm), by omega⟩, e⟩
theorem lenFrom_ends (p : Int) (ns : List Int) : lenFrom (p + 1) (endsFrom p ns) = ns := by
  induction ns generalizing p with
  | nil => rfl
  | cons n ns ih =>
    simp only [endsFrom, lenFrom]
    rw [ih]
    congr 1
    omega
/-- the lengths of the ends are the lengths -/
theorem lengths_ends (ns : List Int) : lengthsOf (endsOf ns) = ns := by
  have := lenFrom_ends (-1) ns
  rwa [show (-1 : Int) + 1 = 0 by decide] at this
theorem ends_lenFrom (p : Int) (es : List Int) : endsFrom p (lenFrom (p + 1) es) = es := by
  induction es generalizing p with
  | nil => rfl
  | cons e r ih =>
    simp only [lenFrom, endsFrom]
    have e1 : p + (1 + (e - (p + 1))) = e := by omega
    rw [e1, ih]
theorem ends_lengths (es : List Int) : endsOf (lengthsOf es) = es := by
  have := ends_lenFrom (-1) es
  rwa [show (-1 : Int) + 1 = 0 by decide] at this
theorem endsOf_wrap (ns : List Int) (w : Int) : endsOf (lawWrap ns w) = wrappedEnds (endsOf ns) w := by
  rw [← wrap_eq]
  exact ends_lengths _
theorem IL.new {H : Hp} {a t : Addr} {ns : List Int} {o : HO} (h : IL H a ns) (n : H t = Option.none) : IL (upd H t o) a ns := at_new h n
theorem IL.same {H H' : Hp} {a : Addr} {ns : List Int} (h : IL H a ns) (s : Same H H') : IL H' a ns := s _ _ h
/-- data that repr shows and == compares: a bound of its length, one of its depth -/
structure Nc (w k : Nat) (d : PyData) : Prop where
  ok : okD d = true
  wt : wt d ≤ w
  dp : d.depth ≤ k
  cl : d.canLay0 = true
structure Ncs (w k : Nat) (ds : List PyData) : Prop where
  ok : okAll ds = true
  wt : wtAll ds ≤ w
  dp : PyData.depthAll ds ≤ k
  cl : PyData.canLayAll0 ds = true
theorem Nc.mono {w k w' k' : Nat} {d : PyData} (h : Nc w k d) (h1 : w ≤ w') (h2 : k ≤ k') : Nc w' k' d := ⟨h.ok, Nat.le_trans h.wt h1, Nat.le_trans h.dp h2, h.cl⟩
theorem Ncs.mono {w k w' k' : Nat} {d : List PyData} (h : Ncs w k d) (h1 : w ≤ w') (h2 : k ≤ k') : Ncs w' k' d := ⟨h.ok, Nat.le_trans h.wt h1, Nat.le_trans h.dp h2, h.cl⟩
theorem Nc.int {z : Int} (h : z.natAbs < 2 ^ 1000) : Nc 2000 0 (.int z) := ⟨by simp only [okD]; exact decide_eq_true (log_small h (by decide) (by decide)), Nat.le_refl _, by simp [PyData.depth], rfl⟩
theorem Nc.bl (b : Bool) : Nc 5 0 (.bool b) := ⟨rfl, Nat.le_refl _, by simp [PyData.depth], rfl⟩
theorem Nc.non : Nc 4 0 .none := ⟨rfl, Nat.le_refl _, by simp [PyData.depth], rfl⟩
theorem Ncs.nil {k : Nat} : Ncs 0 k [] := ⟨rfl, Nat.le_refl _, by simp [PyData.depthAll], by simp [PyData.canLayAll0]⟩
theorem Ncs.cons {w w' k k' : Nat} {d : PyData} {ds : List PyData} (h : Nc w k d) (hs : Ncs w' k' ds) : Ncs (w + 2 + w') (max k k') (d :: ds) := by
  refine ⟨by simp only [okAll, h.ok, hs.ok, Bool.and_self], ?_, ?_, by simp only [PyData.canLayAll0, h.cl, hs.cl, Bool.and_self]⟩
  · have := h.wt
    have := hs.wt
    simp only [wtAll]
    omega
  · have := h.dp
    have := hs.dp
    simp only [PyData.depthAll]
    omega
theorem Nc.list {w k : Nat} {ds : List PyData} (h : Ncs w k ds) : Nc (w + 3) (k + 1) (.list ds) := by
  refine ⟨by simp only [okD, h.ok], ?_, ?_, by simp only [PyData.canLay0, h.cl]⟩
  · have := h.wt
    simp only [Wc.wt]
    omega
  · have := h.dp
    simp only [PyData.depth]
    omega
theorem Nc.tuple {w k : Nat} {ds : List PyData} (h : Ncs w k ds) : Nc (w + 3) (k + 1) (.tuple ds) := by
  refine ⟨by simp only [okD, h.ok], ?_, ?_, by simp only [PyData.canLay0, h.cl]⟩
  · have := h.wt
    simp only [Wc.wt]
    omega
  · have := h.dp
    simp only [PyData.depth]
    omega
/-- as many things, each alike small -/
theorem Ncs.all {w k n : Nat} {ds : List PyData} (hn : ds.length ≤ n) (h : ∀ d ∈ ds, Nc w k d) : Ncs ((w + 2) * n) k ds := by
  induction ds generalizing n with
  | nil => exact Ncs.nil.mono (Nat.zero_le _) (Nat.le_refl _)
  | cons d ds ih =>
    cases n with
    | zero => simp at hn
    | succ n =>
      have := ih (n := n) (by simpa using hn) fun e he => h e (List.mem_cons_of_mem d he)
      refine (Ncs.cons (h d (List.mem_cons_self ..)) this).mono ?_ (by simp)
      rw [Nat.mul_succ]
      omega
theorem Nc.ints {n : Nat} {ns : List Int} (hn : ns.length ≤ n) (h : ∀ m ∈ ns, m.natAbs < 2 ^ 1000) : Nc (2002 * n + 3) 1 (.list (ns.map .int)) := by
  refine Nc.list (Ncs.all (w := 2000) (by rw [List.length_map]; exact hn) fun d hd => ?_)
  obtain ⟨z, hz, rfl⟩ := List.mem_map.mp hd
  exact Nc.int (h z hz)
theorem Nc.shaped {w k : Nat} {d : PyData} (h : Nc w k d) (hk : k ≤ 64) : SeqAt.shaped d = true := by
  unfold SeqAt.shaped
  rw [h.cl, decide_eq_true (Nat.le_trans h.dp hk)]
  rfl
theorem Nc.refl {w k : Nat} {d : PyData} (h : Nc w k d) : PyData.eqv d d = true := SeqAt.eqv_refl d h.cl
theorem Nc.repr {w k : Nat} {K : PySem.W.Frag} {H : Hp} {Q : VK} {v : V} {d : PyData} (n : Nc w k d) (h : Dp K H v d) (hw : w ≤ 16000000) (hk : k ≤ 60) (q : Q (.str d.shown) H) : rReprD K [v] H Q := repr_d h n.ok (Nat.le_trans n.wt hw) (Nat.le_trans n.dp hk) q
/-- x == x, x != x -/
theorem Nc.eqD {w k : Nat} {K : PySem.W.Frag} {H : Hp} {Q : VK} {x y : V} {d : PyData} (n : Nc w k d) (h1 : Dp K H x d) (h2 : Dp K H y d) (hk : k ≤ 64) (q : Q (.bl true) H) : rEqD K x y H Q := ⟨d, d, h1, h2, n.shaped hk, n.shaped hk, by rw [n.refl]; exact q⟩
theorem Nc.neD {w k : Nat} {K : PySem.W.Frag} {H : Hp} {Q : VK} {x y : V} {d : PyData} (n : Nc w k d) (h1 : Dp K H x d) (h2 : Dp K H y d) (hk : k ≤ 64) (q : Q (.bl false) H) : rNeD K x y H Q := ⟨d, d, h1, h2, n.shaped hk, n.shaped hk, by rw [n.refl]; exact q⟩
theorem ints_small {ns : List Int} {B : Int} (hB : B ≤ 2 ^ 60) (h : ∀ m ∈ ns, -B ≤ m ∧ m ≤ B) : ∀ m ∈ ns, m.natAbs < 2 ^ 1000 := by
  intro m hm
  obtain ⟨h1, h2⟩ := h m hm
  refine Nat.lt_of_lt_of_le (m := 2 ^ 61) ?_ (Nat.pow_le_pow_right (by decide) (by decide))
  have e60 : (2 : Int) ^ 60 = 1152921504606846976 := by decide
  have e61 : (2 : Nat) ^ 61 = 2305843009213693952 := by decide
  rw [e61]
  rw [e60] at hB
  omega
theorem Pot.mut {H : Hp} {a p : Addr} {n : Nat} {u : HO} (h : Pot H a n) (ne : a ≠ p) : Pot (upd H p u) a n := let ⟨p0, p1, p2, h, r⟩ := h; ⟨p0, p1, p2, at_mut h ne, r⟩
theorem IL.mut {H : Hp} {a p : Addr} {ns : List Int} {u : HO} (h : IL H a ns) (ne : a ≠ p) : IL (upd H p u) a ns := at_mut h ne
theorem Pot.new {H : Hp} {a p : Addr} {n : Nat} {u : HO} (h : Pot H a n) (np : H p = Option.none) : Pot (upd H p u) a n := h.same (same_new np)
theorem neI {z : Int} : (!decide (V.int z = V.int z)) = false := by simp
theorem neV {z : V} : (!decide (z = z)) = false := by simp
end Wc

/-! comprehensions with any state; those that give data. -/
namespace Wc
open PySem PySem.Spec PyProof.Rows L2

/-- [e for x in xs], any state: P i acc H with acc in D -/
theorem lc_genL {K : PySem.W.Frag} {a D : Addr} {xs : List V} {j : Nat} {te : TE} {vs : List Nat} {σ : L2.St} {H1 : Hp} {Qd : Hp → Prop} (P : Nat → List V → Hp → Prop) (hz : xs.length ≤ sizeLine)
    (h0 : P 0 [] (upd H1 D (.lst []))) (hsrc : ∀ i acc H, P i acc H → H D = some (.lst acc) → SqL K H a xs)
    (hs : ∀ i x acc H, xs[i]? = some x → acc.length = i → P i acc H → H D = some (.lst acc) → ∀ Q : VK, (∀ y H', H' D = some (.lst acc) → P (i + 1) (acc ++ [y]) (upd H' D (.lst (acc ++ [y]))) → Q y H') → te ((wipe σ vs).set j (some x)) H Q)
    (hd : ∀ acc H', acc.length = xs.length → P xs.length acc H' → H' D = some (.lst acc) → Qd H')
    (hw : ∀ x : V, wipe ((wipe σ vs).set j (some x)) vs = wipe σ vs := by intro x; rfl) :
    ∃ W : Nat → Nat → Hp → Prop, (∃ m, W 0 m (upd H1 D (.lst []))) ∧ ∀ i m H, W i m H →
      ((Itl K a).stop i H ∧ Qd H) ∨ ((Itl K a).go i H ∧ ∃ Nx : Hp → Prop, (∀ H', Nx H' → ∃ m', m' < m ∧ W (i + 1) m' H') ∧ ∀ x H', (Itl K a).yld i H x H' → gName j x (wipe σ vs) H' fun σ2 H2 => wipe σ2 vs = wipe σ vs ∧ tYes σ2 H2 fun b H3 =>
        if b = true then te σ2 H3 fun y H4 => ∃ acc, H4 D = some (.lst acc) ∧ acc.length < sizeLine ∧ Nx (upd H4 D (.lst (acc ++ [y]))) else Nx H3) := by
  refine lc_list (xs := xs) (fun i H => ∃ acc, acc.length = i ∧ H D = some (.lst acc) ∧ P i acc H) ⟨[], rfl, upd_same, h0⟩ (fun i H _ ⟨acc, _, e, hp⟩ => hsrc i acc H hp e) ?_ ?_
  · rintro i x H hx ⟨acc, ha, eD, hp⟩
    have hi : i < xs.length := (List.getElem?_eq_some_iff.mp hx).1
    refine ⟨hw x, ?_⟩
    unfold tYes
    dsimp only
    rw [if_pos rfl]
    refine hs i x acc H hx ha hp eD _ fun y H4 e4 p4 => ⟨acc, e4, by omega, acc ++ [y], by rw [List.length_append, List.length_singleton, ha], upd_same, p4⟩
  · rintro H ⟨acc, ha, eD, hp⟩
    exact hd acc H ha hp eD
/-- [e for i in range(..)], any state -/
theorem lc_genR {D : Addr} {lo : Int} {n j : Nat} {te : TE} {vs : List Nat} {σ : L2.St} {H1 : Hp} {Qd : Hp → Prop} (P : Nat → List V → Hp → Prop) (hz : n ≤ sizeLine)
    (h0 : P 0 [] (upd H1 D (.lst [])))
    (hs : ∀ i acc H, i < n → acc.length = i → P i acc H → H D = some (.lst acc) → ∀ Q : VK, (∀ y H', H' D = some (.lst acc) → P (i + 1) (acc ++ [y]) (upd H' D (.lst (acc ++ [y]))) → Q y H') → te ((wipe σ vs).set j (some (.int (lo + i)))) H Q)
    (hd : ∀ acc H', acc.length = n → P n acc H' → H' D = some (.lst acc) → Qd H')
    (hw : ∀ x : V, wipe ((wipe σ vs).set j (some x)) vs = wipe σ vs := by intro x; rfl) :
    ∃ W : Nat → Nat → Hp → Prop, (∃ m, W 0 m (upd H1 D (.lst []))) ∧ ∀ i m H, W i m H →
      ((Itr lo n).stop i H ∧ Qd H) ∨ ((Itr lo n).go i H ∧ ∃ Nx : Hp → Prop, (∀ H', Nx H' → ∃ m', m' < m ∧ W (i + 1) m' H') ∧ ∀ x H', (Itr lo n).yld i H x H' → gName j x (wipe σ vs) H' fun σ2 H2 => wipe σ2 vs = wipe σ vs ∧ tYes σ2 H2 fun b H3 =>
        if b = true then te σ2 H3 fun y H4 => ∃ acc, H4 D = some (.lst acc) ∧ acc.length < sizeLine ∧ Nx (upd H4 D (.lst (acc ++ [y]))) else Nx H3) := by
  refine lc_range (lo := lo) (n := n) (fun i H => ∃ acc, acc.length = i ∧ H D = some (.lst acc) ∧ P i acc H) ⟨[], rfl, upd_same, h0⟩ ?_ ?_
  · rintro i H hi ⟨acc, ha, eD, hp⟩
    refine ⟨hw _, ?_⟩
    unfold tYes
    dsimp only
    rw [if_pos rfl]
    refine hs i acc H hi ha hp eD _ fun y H4 e4 p4 => ⟨acc, e4, by omega, acc ++ [y], by rw [List.length_append, List.length_singleton, ha], upd_same, p4⟩
  · rintro H ⟨acc, ha, eD, hp⟩
    exact hd acc H ha hp eD
theorem DpAll.snoc {K : PySem.W.Frag} {H : Hp} {v : V} {d : PyData} : ∀ {vs : List V} {ds : List PyData}, DpAll K H vs ds → Dp K H v d → DpAll K H (vs ++ [v]) (ds ++ [d])
  | _, _, .nil, h => .cons h .nil
  | _, _, .cons h1 h2, h => .cons h1 (DpAll.snoc h2 h)
/-- what holds of data whose heap only grows, but for the list in D -/
theorem sameB_new {H H' : Hp} {D : Addr} (n : H D = Option.none) (s : SameB D H H') : Same H H' := fun b o e => s b o (ne_of_none e n) e
/-- [e for x in xs], e giving new data -/
theorem lc_mapD {K : PySem.W.Frag} {a D : Addr} {xs : List V} {j : Nat} {te : TE} {vs : List Nat} {σ : L2.St} {H1 : Hp} {Qd : Hp → Prop} (ds : List PyData) (hl : ds.length = xs.length) (hz : xs.length ≤ sizeLine) (hS : SqL K H1 a xs) (nD : H1 D = none)
    (hs : ∀ (i : Nat) (x : V) (d : PyData) (H' : Hp), xs[i]? = some x → ds[i]? = some d → Same H1 H' → (∃ o, H' D = some o) → ∀ Q : VK, (∀ y H2, Same H' H2 → (∀ H3, (∀ b o, b ≠ D → H2 b = some o → H3 b = some o) → Dp K H3 y d) → Q y H2) → te ((wipe σ vs).set j (some x)) H' Q)
    (hd : ∀ H' acc, Same H1 H' → H' D = some (.lst acc) → DpAll K H' acc ds → Qd H')
    (hw : ∀ x : V, wipe ((wipe σ vs).set j (some x)) vs = wipe σ vs := by intro x; rfl) :
    ∃ W : Nat → Nat → Hp → Prop, (∃ m, W 0 m (upd H1 D (.lst []))) ∧ ∀ i m H, W i m H →
      ((Itl K a).stop i H ∧ Qd H) ∨ ((Itl K a).go i H ∧ ∃ Nx : Hp → Prop, (∀ H', Nx H' → ∃ m', m' < m ∧ W (i + 1) m' H') ∧ ∀ x H', (Itl K a).yld i H x H' → gName j x (wipe σ vs) H' fun σ2 H2 => wipe σ2 vs = wipe σ vs ∧ tYes σ2 H2 fun b H3 =>
        if b = true then te σ2 H3 fun y H4 => ∃ acc, H4 D = some (.lst acc) ∧ acc.length < sizeLine ∧ Nx (upd H4 D (.lst (acc ++ [y]))) else Nx H3) := by
  refine lc_genL (fun i acc H => Same H1 H ∧ ∀ H3, (∀ b o, b ≠ D → H b = some o → H3 b = some o) → DpAll K H3 acc (ds.take i)) hz ⟨same_new nD, fun _ _ => .nil⟩ (fun i acc H hp _ => hp.1.seq hS) ?_ ?_ hw
  · rintro i x acc H hx ha ⟨sm, hp⟩ eD Q k
    have hi : i < xs.length := (List.getElem?_eq_some_iff.mp hx).1
    have hdd : ds[i]? = some (ds[i]'(by omega)) := List.getElem?_eq_getElem (by omega)
    refine hs i x _ H hx hdd sm ⟨_, eD⟩ Q fun y H2 s2 hy => k y H2 (s2 _ _ eD) ⟨same_mut (sm.trans s2) nD, fun H3 s3 => ?_⟩
    have s23 : ∀ b o, b ≠ D → H2 b = some o → H3 b = some o := fun b o nb e => s3 b o nb (by rw [upd_ne nb]; exact e)
    rw [List.take_add_one, hdd]
    exact DpAll.snoc (hp H3 fun b o nb e => s23 b o nb (s2 b o e)) (hy H3 s23)
  · rintro acc H ha ⟨sm, hp⟩ eD
    refine hd H acc sm eD ?_
    have := hp H fun b o _ e => e
    rwa [← hl, List.take_length] at this
theorem if_go {tt : TT} {t1 t2 : TS} {D : Ends} {σ : L2.St} {H : Hp} (h : tt σ H fun b H1 => if b = true then t1 D σ H1 else t2 D σ H1) : tIfS tt t1 t2 D σ H := h
/-- a test that fails, with what holds of the heap behind it -/
abbrev No (tt : TT) (σ : L2.St) (H : Hp) (P : Hp → Prop) : Prop := ∀ Q : Bool → Hp → Prop, (∀ H', P H' → Q false H') → tt σ H Q
section
variable {ta tb : TT} {t1 : TS} {u : TS} {D : Ends} {σ : L2.St} {H : Hp} {Q : Bool → Hp → Prop}
theorem or_no (P : Hp → Prop) (h : No ta σ H P) (k : ∀ H', P H' → tb σ H' Q) : tOr ta tb σ H Q := h _ fun H' p => by
  rw [if_neg (by decide)]
  exact k H' p
theorem sq_no (P : Hp → Prop) (h : No ta σ H P) (k : ∀ H', P H' → u D σ H') : tSeq (tIfS ta t1 tNext) u D σ H := h _ fun H' p => by
  rw [if_neg (by decide)]
  exact k H' p
theorem if_no (P : Hp → Prop) (h : No ta σ H P) (k : ∀ H', P H' → D.nx σ H') : tIfS ta t1 tNext D σ H := h _ fun H' p => by
  rw [if_neg (by decide)]
  exact k H' p
end
/-- for x, y in zip(xs, ys), lists of one length -/
theorem for_zip {K : PySem.W.Frag} {a b : Addr} {xs ys : List V} {j k : Nat} {tb : TS} {D : Ends} {σ : L2.St} {H : Hp} (Pv : Nat → L2.St → Hp → Prop) (hl : ys.length = xs.length) (h0 : Pv 0 σ H) (hG : ∀ i σ H, Pv i σ H → SqL K H a xs ∧ SqL K H b ys)
    (hs : ∀ i x y σ H T, xs[i]? = some x → ys[i]? = some y → H T = Option.none → Pv i σ H → tb { D with nx := Pv (i + 1), ct := Pv (i + 1), bk := D.nx } ((σ.set j (some x)).set k (some y)) (upd H T (.tup [x, y]))) (hd : ∀ σ H, Pv xs.length σ H → D.nx σ H) :
    ∃ W : Nat → Nat → L2.St → Hp → Prop, (∃ m, W 0 m σ H) ∧ ∀ i m σ H, W i m σ H →
      ((Itz K a b).stop i H ∧ D.nx σ H) ∨ ((Itz K a b).go i H ∧ ∃ N : L2.St → Hp → Prop, (∀ σ' H', N σ' H' → ∃ m', m' < m ∧ W (i + 1) m' σ' H') ∧ ∀ x H', (Itz K a b).yld i H x H' → gTup K 2 (gCons (gName j) (gCons (gName k) gNil)) x σ H' fun σ2 H2 => tb { D with nx := N, ct := N, bk := D.nx } σ2 H2) := by
  refine for_it (n := xs.length) (walk_zip (xs := xs) (ys := ys) (by rw [hl, Nat.min_self])) Pv h0 (fun i σ H _ p => hG i σ H p) ?_ hd
  rintro i v σ H H2 hi p ⟨T, x, y, rfl, nT, rfl, hx, hy⟩
  exact ⟨T, _, rfl, .inl (.inl upd_same), rfl, _, _, rfl, _, _, rfl, rfl, hs i x y σ H T hx hy nT p⟩
/-- [x for x in xs if t], ints -/
theorem lc_filtI {K : PySem.W.Frag} {a D : Addr} {all : List Int} {j : Nat} {tt : TT} {te : TE} {vs : List Nat} {σ : L2.St} {H1 : Hp} {Qd : Hp → Prop} (c : Int → Bool) (hz : all.length ≤ sizeLine) (hS : SqL K H1 a (iV all)) (nD : H1 D = Option.none)
    (ht : ∀ (i : Nat) (z : Int) (H' : Hp), all[i]? = some z → Same H1 H' → Evt tt ((wipe σ vs).set j (some (.int z))) H' (c z)) (hs : ∀ (z : Int) (H' : Hp), Evs te ((wipe σ vs).set j (some (.int z))) H' (.int z))
    (hd : ∀ H', Same H1 H' → IL H' D (all.filter c) → Qd H') (hw : ∀ x : V, wipe ((wipe σ vs).set j (some x)) vs = wipe σ vs := by intro x; rfl) :
    ∃ W : Nat → Nat → Hp → Prop, (∃ m, W 0 m (upd H1 D (.lst []))) ∧ ∀ i m H, W i m H →
      ((Itl K a).stop i H ∧ Qd H) ∨ ((Itl K a).go i H ∧ ∃ Nx : Hp → Prop, (∀ H', Nx H' → ∃ m', m' < m ∧ W (i + 1) m' H') ∧ ∀ x H', (Itl K a).yld i H x H' → gName j x (wipe σ vs) H' fun σ2 H2 => wipe σ2 vs = wipe σ vs ∧ tt σ2 H2 fun b H3 =>
        if b = true then te σ2 H3 fun y H4 => ∃ acc, H4 D = some (.lst acc) ∧ acc.length < sizeLine ∧ Nx (upd H4 D (.lst (acc ++ [y]))) else Nx H3) := by
  refine lc_filtL (xs := iV all) (fun v => match v with | .int z => if c z = true then some (.int z) else Option.none | _ => Option.none) (by rw [List.length_map]; exact hz) hS nD ?_ ?_ ?_ hw
  · intro i x H' hx s
    obtain ⟨z, hz1, rfl⟩ := ints_get hx
    have e : (if c z = true then some (V.int z) else Option.none).isSome = c z := by cases c z <;> rfl
    dsimp only
    rw [e]
    exact ht i z H' hz1 s
  · intro i x y H' hx hy s
    obtain ⟨z, hz1, rfl⟩ := ints_get hx
    dsimp only at hy
    split at hy
    · rw [← Option.some.inj hy]
      exact hs z H'
    · cases hy
  · intro H' s e
    refine hd H' s ?_
    show H' D = _
    rw [e]
    congr 2
    clear e s hd hs ht hS hz
    induction all with
    | nil => rfl
    | cons z r ih =>
      show List.filterMap _ (V.int z :: iV r) = _
      rw [List.filter_cons, List.filterMap_cons]
      dsimp only
      cases h : c z with
      | true => simp [ih]
      | false => simp [ih]
theorem neF {x y : V} {i : Decidable (x = y)} (h : x = y) : (!(@decide (x = y) i)) = false := by
  rw [decide_eq_true h]
  rfl
theorem eqT {x y : V} {i : Decidable (x = y)} (h : x = y) : (@decide (x = y) i) = true := decide_eq_true h
theorem neT {x y : V} {i : Decidable (x = y)} (h : x ≠ y) : (!(@decide (x = y) i)) = true := by
  rw [decide_eq_false h]
  rfl
theorem gn_go {i : Nat} {v : V} {σ : L2.St} {H : Hp} {Q : L2.St → Hp → Prop} (h : Q (σ.set i (some v)) H) : gName i v σ H Q := h
/-- [e for x, y in zip(xs, ys) if t], where t never holds -/
theorem lc_noneZ {K : PySem.W.Frag} {a b D : Addr} {xs ys : List V} {j k : Nat} {tt : TT} {te : TE} {vs : List Nat} {σ : L2.St} {H1 : Hp} {Qd : Hp → Prop} (hA : SqL K H1 a xs) (hB : SqL K H1 b ys) (nD : H1 D = Option.none)
    (hs : ∀ (i : Nat) (x y : V) (H' : Hp), xs[i]? = some x → ys[i]? = some y → Same H1 H' → Evt tt (((wipe σ vs).set j (some x)).set k (some y)) H' false) (hd : ∀ H', Same H1 H' → H' D = some (.lst []) → Qd H')
    (hw : ∀ x y : V, wipe (((wipe σ vs).set j (some x)).set k (some y)) vs = wipe σ vs := by intro x y; rfl) :
    ∃ W : Nat → Nat → Hp → Prop, (∃ m, W 0 m (upd H1 D (.lst []))) ∧ ∀ i m H, W i m H →
      ((Itz K a b).stop i H ∧ Qd H) ∨ ((Itz K a b).go i H ∧ ∃ Nx : Hp → Prop, (∀ H', Nx H' → ∃ m', m' < m ∧ W (i + 1) m' H') ∧ ∀ x H', (Itz K a b).yld i H x H' → gTup K 2 (gCons (gName j) (gCons (gName k) gNil)) x (wipe σ vs) H' fun σ2 H2 => wipe σ2 vs = wipe σ vs ∧ tt σ2 H2 fun b H3 =>
        if b = true then te σ2 H3 fun y H4 => ∃ acc, H4 D = some (.lst acc) ∧ acc.length < sizeLine ∧ Nx (upd H4 D (.lst (acc ++ [y]))) else Nx H3) := by
  refine lc_it (n := min xs.length ys.length) (walk_zip (xs := xs) (ys := ys) rfl) (fun i H => Same H1 H ∧ H D = some (.lst [])) ⟨same_new nD, upd_same⟩ (fun i H _ hp => ⟨hp.1.seq hA, hp.1.seq hB⟩) ?_ ?_
  · rintro i v H H' hi ⟨sm, eD⟩ ⟨T, x, y, rfl, nT, rfl, hx, hy⟩
    have sT : Same H (upd H T (.tup [x, y])) := same_new nT
    refine ⟨T, [x, y], rfl, .inl (.inl upd_same), rfl, x, [y], rfl, y, [], rfl, rfl, hw x y, ?_⟩
    refine hs i x y _ hx hy (sm.trans sT) _ fun H3 s3 => ?_
    rw [if_neg (by decide)]
    exact ⟨(sm.trans sT).trans s3, s3 _ _ (sT _ _ eD)⟩
  · rintro H ⟨sm, eD⟩
    exact hd H sm eD
theorem pair_get {R : Int → Int → Prop} : ∀ {xs : List Int} {i : Nat} {x y : Int}, xs.Pairwise R → xs[i]? = some x → xs[i + 1]? = some y → R x y
  | a :: b :: r, 0, x, y, h, hx, hy => by
    simp at hx hy
    rw [← hx, ← hy]
    exact (List.pairwise_cons.mp h).1 b (List.mem_cons_self ..)
  | a :: r, i + 1, x, y, h, hx, hy => pair_get (List.pairwise_cons.mp h).2 (by simpa using hx) (by simpa using hy)
  | [], i, x, y, h, hx, hy => by simp at hx
  | [a], 0, x, y, h, hx, hy => by simp at hy
theorem nx_go {D : Ends} {σ : L2.St} {H : Hp} (h : D.nx σ H) : tNext D σ H := h
end Wc

/-! the number of lines at a width. -/
namespace Wc
open PySem PySem.Spec PyProof.Rows L2

theorem lineGo_mono {w w' : Int} (hw : w ≤ w') (ns : List Int) (h : ∀ n ∈ ns, 1 ≤ n) : (∀ c c' : Int, 0 ≤ c → c' ≤ c → (lineGo w' c' ns).length ≤ (lineGo w c ns).length) ∧ (∀ c c' : Int, 0 ≤ c → (lineGo w' c' ns).length ≤ (lineGo w c ns).length + 1) := by
  induction ns with
  | nil => exact ⟨fun c c' _ _ => Nat.le_refl _, fun c c' _ => by simp [lineGo]⟩
  | cons n r ih =>
    have hn := h n (List.mem_cons_self ..)
    obtain ⟨A, B⟩ := ih fun m hm => h m (List.mem_cons_of_mem n hm)
    constructor
    · intro c c' hc hcc
      unfold lineGo
      by_cases f : c + 1 + n ≤ w
      · rw [if_pos f, if_pos (by omega)]
        exact A _ _ (by omega) (by omega)
      · rw [if_neg f]
        by_cases f' : c' + 1 + n ≤ w'
        · rw [if_pos f', List.length_cons]
          exact B _ _ (by omega)
        · rw [if_neg f', List.length_cons, List.length_cons]
          have := A n n (by omega) (Int.le_refl _)
          omega
    · intro c c' hc
      unfold lineGo
      by_cases f : c + 1 + n ≤ w
      · rw [if_pos f]
        by_cases f' : c' + 1 + n ≤ w'
        · rw [if_pos f']
          exact B _ _ (by omega)
        · rw [if_neg f', List.length_cons]
          have := A (c + 1 + n) n (by omega) (by omega)
          omega
      · rw [if_neg f, List.length_cons]
        by_cases f' : c' + 1 + n ≤ w'
        · rw [if_pos f']
          have := B n (c' + 1 + n) (by omega)
          omega
        · rw [if_neg f', List.length_cons]
          have := A n n (by omega) (Int.le_refl _)
          omega
theorem lawWrap_mono {w w' : Int} (hw : w ≤ w') {ns : List Int} (h : ∀ n ∈ ns, 1 ≤ n) : (lawWrap ns w').length ≤ (lawWrap ns w).length := by
  cases ns with
  | nil => exact Nat.le_refl _
  | cons n r =>
    rw [lawWrap_cons, lawWrap_cons]
    have hn := h n (List.mem_cons_self ..)
    exact (lineGo_mono hw r fun m hm => h m (List.mem_cons_of_mem n hm)).1 n n (by omega) (Int.le_refl _)
theorem lineGo_one {w c : Int} {ns : List Int} (h : ∀ n ∈ ns, 1 ≤ n) (hw : c + ns.sum + ns.length ≤ w) : lineGo w c ns = [c + ns.sum + ns.length] := by
  induction ns generalizing c with
  | nil => simp [lineGo]
  | cons n r ih =>
    have hn := h n (List.mem_cons_self ..)
    have hr := fun m hm => h m (List.mem_cons_of_mem n hm)
    have hl := total_nonneg_len r hr
    simp only [List.sum_cons, List.length_cons] at hw ⊢
    unfold lineGo
    rw [if_pos (by omega), ih hr (by omega)]
    congr 1
    omega
/-- at a width from the number of characters on there is one line -/
theorem lawWrap_one {ns : List Int} (ht : Txt' ns) {w : Int} (hw : total ns ≤ w) : lawWrap ns w = [total ns] := by
  obtain ⟨h0, h1, h2⟩ := ht
  cases ns with
  | nil => exact (h0 rfl).elim
  | cons n r =>
    unfold total at hw ⊢
    simp only [List.sum_cons, List.length_cons] at hw ⊢
    rw [lawWrap_cons, lineGo_one (fun m hm => h1 m (List.mem_cons_of_mem n hm)) (by omega)]
    congr 1
    omega
theorem lineGo_single {w c : Int} {ns : List Int} (h0 : ns ≠ []) (h : (lineGo w c ns).length ≤ 1) : c + ns.sum + ns.length ≤ w := by
  induction ns generalizing c with
  | nil => exact (h0 rfl).elim
  | cons n r ih =>
    unfold lineGo at h
    by_cases f : c + 1 + n ≤ w
    · rw [if_pos f] at h
      simp only [List.sum_cons, List.length_cons]
      cases r with
      | nil => simp; omega
      | cons m r =>
        have := ih (by simp) h
        simp only [List.sum_cons, List.length_cons] at this ⊢
        omega
    · rw [if_neg f, List.length_cons] at h
      have := List.length_pos_iff.mpr (lineGo_ne w n r)
      omega
theorem lawWrap_single {ns : List Int} {w : Int} (h1 : 1 < ns.length) (h : (lawWrap ns w).length ≤ 1) : total ns ≤ w := by
  cases ns with
  | nil => simp at h1
  | cons n r =>
    rw [lawWrap_cons] at h
    have := lineGo_single (by rintro rfl; simp at h1) h
    unfold total
    simp only [List.sum_cons, List.length_cons]
    omega
theorem lineGo_len (w c : Int) (ns : List Int) : (lineGo w c ns).length ≤ ns.length + 1 := by
  induction ns generalizing c with
  | nil => simp [lineGo]
  | cons n r ih =>
    unfold lineGo
    split
    · have := ih (c + 1 + n)
      simp only [List.length_cons]
      omega
    · have := ih n
      simp only [List.length_cons]
      omega
theorem lawWrap_lenle (ns : List Int) (w : Int) : (lawWrap ns w).length ≤ ns.length := by
  cases ns with
  | nil => exact Nat.le_refl _
  | cons n r =>
    rw [lawWrap_cons]
    exact lineGo_len w n r
theorem wrappedEnds_len (ns : List Int) (w : Int) : (wrappedEnds (endsOf ns) w).length = (lawWrap ns w).length := by
  rw [← endsOf_wrap, endsOf_len]
/-- r is the least width with at most m lines -/
def IsLeast (ns : List Int) (m r : Int) : Prop := 1 ≤ r ∧ r ≤ total ns ∧ ((lawWrap ns r).length : Int) ≤ m ∧ ∀ w, 1 ≤ w → w < r → m < ((lawWrap ns w).length : Int)
theorem endsOf_last {ns : List Int} (h : ns ≠ []) : (endsOf ns).getLast? = some (total ns) := by
  have hl := List.length_pos_iff.mpr h
  have e := endsFrom_get (-1) ns (ns.length - 1) (by omega)
  rw [List.getLast?_eq_getElem?, endsOf_len]
  unfold endsOf
  rw [e]
  have e2 : ns.length - 1 + 1 = ns.length := by omega
  unfold lastFrom total
  rw [e2, List.take_length]
  congr 1
  omega
theorem IsLeast.uniq {ns : List Int} {m r r' : Int} (h : IsLeast ns m r) (h' : IsLeast ns m r') : r = r' := by
  obtain ⟨a1, a2, a3, a4⟩ := h
  obtain ⟨b1, b2, b3, b4⟩ := h'
  rcases (by omega : r = r' ∨ r < r' ∨ r' < r) with h | h | h
  · exact h
  · have := b4 r a1 h
    omega
  · have := a4 r' b1 h
    omega
end Wc

/-! sorting; texts from their spaces. -/
namespace Wc
open PySem PySem.Spec PyProof.Rows L2

def srt (ns : List Int) : List Int := ns.mergeSort (fun a b => decide (a ≤ b))
theorem srt_perm (ns : List Int) : (srt ns).Perm ns := List.mergeSort_perm _ _
theorem srt_pair (ns : List Int) : (srt ns).Pairwise (· ≤ ·) := by
  have := List.pairwise_mergeSort (le := fun a b : Int => decide (a ≤ b)) (fun a b c h1 h2 => by simp at *; omega) (fun a b => by simp; omega) ns
  exact this.imp fun h => of_decide_eq_true h
theorem sort_uniq {xs ys : List Int} (p : xs.Perm ys) (h1 : xs.Pairwise (· ≤ ·)) (h2 : ys.Pairwise (· ≤ ·)) : xs = ys :=
  List.Perm.eq_of_pairwise (le := (· ≤ ·)) (fun a b _ _ h1 h2 => Int.le_antisymm h1 h2) h1 h2 p
theorem srt_of {xs ns : List Int} (p : xs.Perm ns) (h : xs.Pairwise (· ≤ ·)) : xs = srt ns := sort_uniq (p.trans (srt_perm ns).symm) h (srt_pair ns)
theorem srt_len (ns : List Int) : (srt ns).length = ns.length := (srt_perm ns).length_eq
theorem srt_eq {ns ms : List Int} (p : ns.Perm ms) : srt ns = srt ms := srt_of ((srt_perm ns).trans p) (srt_pair ns)
theorem srt_id {ns : List Int} (h : ns.Pairwise (· ≤ ·)) : srt ns = ns := (srt_of (List.Perm.refl ns) h).symm
def isSpot : PyData → Bool
  | .int i => decide (0 ≤ i)
  | _ => false
/-- text_of(characters, spaces), or none where it raises -/
def textOf (cv : V) (o : Option PyData) : Option (List Int) := match cv, o with
  | .int c, some (.list ds) => if 1 ≤ c ∧ c ≤ 600 ∧ ds.all isSpot = true ∧ areLengths (some (.list ((lengthsOf (srt (ds.map lenOf) ++ [c])).map .int))) = true then some (lengthsOf (srt (ds.map lenOf) ++ [c])) else none
  | _, _ => none
theorem dpAll_spots {K : PySem.W.Frag} {H : Hp} : ∀ {ds : List PyData} {vs : List V}, DpAll K H vs ds → ds.all isSpot = true → vs = iV (ds.map lenOf)
  | _, _, .nil, _ => rfl
  | d :: ds, v :: vs, .cons h1 h2, h => by
    rw [List.all_cons, Bool.and_eq_true] at h
    rw [dpAll_spots h2 h.2]
    cases h1 <;> simp [isSpot] at h
    rfl
/-- the spaces of a text give it back -/
theorem ends_pair (p : Int) (ns : List Int) (h : ∀ n ∈ ns, 1 ≤ n) : (endsFrom p ns).Pairwise (· ≤ ·) ∧ ∀ e ∈ endsFrom p ns, p < e := by
  induction ns generalizing p with
  | nil => exact ⟨.nil, fun e he => by cases he⟩
  | cons n ns ih =>
    have hn := h n (List.mem_cons_self ..)
    obtain ⟨a, b⟩ := ih (p + (1 + n)) fun m hm => h m (List.mem_cons_of_mem n hm)
    refine ⟨.cons (fun e he => ?_) a, fun e he => ?_⟩
    · have := b e he
      omega
    · rcases List.mem_cons.mp he with rfl | he
      · omega
      · have := b e he
        omega
theorem textOf_ends {ws : List Int} (ht : Txt' ws) : textOf (.int (total ws)) (some (.list ((endsOf ws).dropLast.map .int))) = some ws := by
  have hp := (ends_pair (-1) ws ht.2.1).1
  have hp2 : (endsOf ws).dropLast.Pairwise (· ≤ ·) := hp.sublist (List.dropLast_sublist _)
  have hne : endsOf ws ≠ [] := by
    intro e
    have := congrArg List.length e
    rw [endsOf_len] at this
    exact ht.1 (List.length_eq_zero_iff.mp this)
  have e1 : srt ((((endsOf ws).dropLast).map PyData.int).map lenOf) ++ [total ws] = endsOf ws := by
    rw [lens_ints, srt_id hp2]
    have h1 := List.dropLast_concat_getLast hne
    have h2 := endsOf_last ht.1
    rw [List.getLast?_eq_some_getLast hne] at h2
    rw [← Option.some.inj h2]
    exact h1
  have hlen := total_nonneg_len ws ht.2.1
  have hpos := List.length_pos_iff.mpr ht.1
  unfold textOf
  dsimp only
  rw [e1, lengths_ends, if_pos]
  refine ⟨?_, ht.2.2, ?_, ht.yes⟩
  · unfold total
    omega
  · rw [List.all_map, List.all_eq_true]
    intro e he
    have := (ends_pair (-1) ws ht.2.1).2 e (List.dropLast_subset _ he)
    show decide (0 ≤ e) = true
    exact decide_eq_true (by omega)
end Wc

/-! where lines end. -/
namespace Wc
open PySem PySem.Spec PyProof.Rows L2

/-- e is the end of the line that starts at s -/
def IsNx (all : List Int) (w s e : Int) : Prop := e ∈ all ∧ s < e ∧ (∀ t ∈ all, s < t → t ≤ s + w → t ≤ e) ∧ (e ≤ s + w ∨ ∀ t ∈ all, s < t → e ≤ t)
def LinesOk (all : List Int) (w : Int) : Int → List Int → Prop
  | _, [] => True
  | s, e :: es => IsNx all w s e ∧ LinesOk all w (e + 1) es
theorem IsNx.mono {all : List Int} {w w' s s' e e' : Int} (h : IsNx all w s e) (h' : IsNx all w' s' e') (hs : s ≤ s') (hw : w ≤ w') : e ≤ e' := by
  obtain ⟨a1, a2, a3, a4⟩ := h
  obtain ⟨b1, b2, b3, b4⟩ := h'
  rcases Int.lt_or_le e' e with c | c
  · rcases a4 with a4 | a4
    · exact b3 e a1 (by omega) (by omega)
    · exact a4 e' b1 (by omega)
  · exact c
theorem LinesOk.mono {all : List Int} {w w' : Int} (hw : w ≤ w') : ∀ {es es' : List Int} {s s' : Int}, LinesOk all w s es → LinesOk all w' s' es' → s ≤ s' → ∀ (i : Nat) (e e' : Int), es[i]? = some e → es'[i]? = some e' → e ≤ e'
  | e0 :: es, e0' :: es', s, s', ⟨h1, h2⟩, ⟨h1', h2'⟩, hs, 0, e, e', he, he' => by
    simp at he he'
    rw [← he, ← he']
    exact h1.mono h1' hs hw
  | e0 :: es, e0' :: es', s, s', ⟨h1, h2⟩, ⟨h1', h2'⟩, hs, i + 1, e, e', he, he' => by
    have := h1.mono h1' hs hw
    exact LinesOk.mono hw h2 h2' (by omega) i e e' (by simpa using he) (by simpa using he')
  | [], _, _, _, _, _, _, i, e, e', he, _ => by simp at he
  | _ :: _, [], _, _, _, _, _, i, e, e', _, he' => by simp at he'
theorem LinesOk.get {all : List Int} {w : Int} : ∀ {es : List Int} {s : Int}, LinesOk all w s es → ∀ (i : Nat) (a e : Int), (s :: es.map (· + 1))[i]? = some a → es[i]? = some e → IsNx all w a e
  | e0 :: es, s, ⟨h1, h2⟩, 0, a, e, ha, he => by
    simp at ha he
    rw [← ha, ← he]
    exact h1
  | e0 :: es, s, ⟨h1, h2⟩, i + 1, a, e, ha, he => by
    refine LinesOk.get h2 i a e ?_ (by simpa using he)
    simpa using ha
  | [], _, _, i, a, e, _, he => by simp at he
theorem wrapGo_ok (all : List Int) (w : Int) (r : List Int) : ∀ (s start : Int), (s :: r).Pairwise (fun a b => a + 1 < b) → (∀ t ∈ all, t ≤ s ∨ t ∈ r) → s ∈ all → (∀ t ∈ r, t ∈ all) → start < s → (s ≤ start + w ∨ ∀ t ∈ all, start < t → s ≤ t) → LinesOk all w start (wrapGo w start (s :: r)) := by
  induction r with
  | nil =>
    intro s start _ hall hs _ hss hor
    refine ⟨⟨hs, hss, fun t ht _ _ => ?_, hor⟩, trivial⟩
    rcases hall t ht with h | h
    · exact h
    · cases h
  | cons t0 r ih =>
    intro s start hp hall hs hr hss hor
    obtain ⟨hp1, hp2⟩ := List.pairwise_cons.mp hp
    have h0 := hp1 t0 (List.mem_cons_self ..)
    obtain ⟨hp3, _⟩ := List.pairwise_cons.mp hp2
    unfold wrapGo
    by_cases c : t0 > start + w
    · rw [if_pos c]
      refine ⟨⟨hs, hss, fun t ht h1 h2 => ?_, hor⟩, ?_⟩
      · rcases hall t ht with h | h
        · exact h
        · rcases List.mem_cons.mp h with rfl | h
          · omega
          · have := hp3 t h
            omega
      · refine ih t0 (s + 1) hp2 (fun t ht => ?_) (hr t0 (List.mem_cons_self ..)) (fun t ht => hr t (List.mem_cons_of_mem _ ht)) h0 (.inr fun t ht h1 => ?_)
        · rcases hall t ht with h | h
          · exact .inl (by omega)
          · rcases List.mem_cons.mp h with rfl | h
            · exact .inl (Int.le_refl _)
            · exact .inr h
        · rcases hall t ht with h | h
          · omega
          · rcases List.mem_cons.mp h with rfl | h
            · exact Int.le_refl _
            · have := hp3 t h
              omega
    · rw [if_neg c]
      refine ih t0 start hp2 (fun t ht => ?_) (hr t0 (List.mem_cons_self ..)) (fun t ht => hr t (List.mem_cons_of_mem _ ht)) (by omega) (.inl (by omega))
      rcases hall t ht with h | h
      · exact .inl (by omega)
      · rcases List.mem_cons.mp h with rfl | h
        · exact .inl (Int.le_refl _)
        · exact .inr h
theorem ends_pair2 (p : Int) (ns : List Int) (h : ∀ n ∈ ns, 1 ≤ n) : (endsFrom p ns).Pairwise (fun a b => a + 1 < b) ∧ ∀ e ∈ endsFrom p ns, p + 1 < e := by
  induction ns generalizing p with
  | nil => exact ⟨.nil, fun e he => by cases he⟩
  | cons n ns ih =>
    have hn := h n (List.mem_cons_self ..)
    obtain ⟨a, b⟩ := ih (p + (1 + n)) fun m hm => h m (List.mem_cons_of_mem n hm)
    refine ⟨.cons (fun e he => b e he) a, fun e he => ?_⟩
    rcases List.mem_cons.mp he with rfl | he
    · omega
    · have := b e he
      omega
theorem lines_ok {ns : List Int} (ht : Txt' ns) (w : Int) : LinesOk (endsOf ns) w 0 (endsOf (lawWrap ns w)) := by
  rw [endsOf_wrap]
  obtain ⟨h0, h1, _⟩ := ht
  obtain ⟨hp, hl⟩ := ends_pair2 (-1) ns h1
  unfold wrappedEnds
  cases e : endsOf ns with
  | nil => exact trivial
  | cons s r =>
    have e' : endsFrom (-1) ns = s :: r := e
    rw [e'] at hp hl
    have hs := hl s (List.mem_cons_self ..)
    obtain ⟨hp1, _⟩ := List.pairwise_cons.mp hp
    refine wrapGo_ok (s :: r) w r s 0 hp (fun t ht => ?_) (List.mem_cons_self ..) (fun t ht => List.mem_cons_of_mem _ ht) (by omega) (.inr fun t ht _ => ?_)
    · rcases List.mem_cons.mp ht with rfl | h
      · exact .inl (Int.le_refl _)
      · exact .inr h
    · rcases List.mem_cons.mp ht with rfl | h
      · exact Int.le_refl _
      · have := hp1 t h
        omega
theorem startsOf_len {es : List Int} (h : es ≠ []) : (startsOf es).length = es.length := by
  have := List.length_pos_iff.mpr h
  unfold startsOf
  rw [List.length_cons, List.length_map, List.length_dropLast]
  omega
theorem startsOf_get {es : List Int} {i : Nat} {a : Int} (h : (startsOf es)[i]? = some a) : (0 :: es.map (· + 1))[i]? = some a := by
  unfold startsOf at h
  cases i with
  | zero => exact h
  | succ i =>
    simp only [List.getElem?_cons_succ, List.getElem?_map] at h ⊢
    rw [List.dropLast_eq_take, List.getElem?_take] at h
    split at h
    · exact h
    · cases h
theorem starts_mono {ns : List Int} (ht : Txt' ns) {w w' : Int} (hw : w ≤ w') {i : Nat} {a a' : Int} (h : (startsOf (endsOf (lawWrap ns w)))[i]? = some a) (h' : (startsOf (endsOf (lawWrap ns w')))[i]? = some a') : a ≤ a' := by
  have m := LinesOk.mono hw (lines_ok ht w) (lines_ok ht w') (Int.le_refl 0)
  have g := startsOf_get h
  have g' := startsOf_get h'
  cases i with
  | zero =>
    simp at g g'
    omega
  | succ i =>
    simp only [List.getElem?_cons_succ, List.getElem?_map] at g g'
    cases e : (endsOf (lawWrap ns w))[i]? with
    | none => rw [e] at g; cases g
    | some x =>
      cases e' : (endsOf (lawWrap ns w'))[i]? with
      | none => rw [e'] at g'; cases g'
      | some x' =>
        rw [e] at g
        rw [e'] at g'
        simp at g g'
        have := m i x x' e e'
        omega
/-- the start and the length of a line -/
theorem line_at {ns : List Int} (ht : Txt' ns) {w : Int} {i : Nat} {a r : Int} (h : (startsOf (endsOf (lawWrap ns w)))[i]? = some a) (hr : (lawWrap ns w)[i]? = some r) : IsNx (endsOf ns) w a (a + r) := by
  have hi : i < (lawWrap ns w).length := (List.getElem?_eq_some_iff.mp hr).1
  have he : (endsOf (lawWrap ns w))[i]? = some ((endsOf (lawWrap ns w))[i]'(by rw [endsOf_len]; exact hi)) := List.getElem?_eq_getElem _
  have g := (lines_ok ht w).get i a _ (startsOf_get h) he
  have e2 := ends_get hr
  rw [e2] at he
  have e3 : lastEnd (lawWrap ns w) (i + 1) = a + r := by
    rw [lastEnd_succ hr]
    have : lastEnd (lawWrap ns w) i + 1 = a := by
      cases i with
      | zero =>
        have := startsOf_get h
        simp at this
        rw [← this]
        simp [lastEnd, lastFrom]
      | succ i =>
        have g := startsOf_get h
        simp only [List.getElem?_cons_succ, List.getElem?_map] at g
        obtain ⟨y, hy⟩ : ∃ y, (lawWrap ns w)[i]? = some y := ⟨_, List.getElem?_eq_getElem (by omega)⟩
        rw [ends_get hy] at g
        simpa using g
    omega
  rw [← Option.some.inj he, e3] at g
  exact g
/-! ### the greatest length as a width -/
theorem lineGo_ge (w c : Int) (ns : List Int) (h : ∀ n ∈ ns, 1 ≤ n) : ∃ l ∈ lineGo w c ns, c ≤ l := by
  induction ns generalizing c with
  | nil => exact ⟨c, by simp [lineGo], Int.le_refl _⟩
  | cons n r ih =>
    have hn := h n (List.mem_cons_self ..)
    unfold lineGo
    split
    · obtain ⟨l, h1, h2⟩ := ih (c + 1 + n) fun m hm => h m (List.mem_cons_of_mem n hm)
      exact ⟨l, h1, by omega⟩
    · exact ⟨c, List.mem_cons_self .., Int.le_refl _⟩
theorem lineGo_max {w m : Int} (hm : m ≤ w) (ns : List Int) (h : ∀ n ∈ ns, 1 ≤ n) : ∀ c, (∀ l ∈ lineGo w c ns, l ≤ m) → lineGo m c ns = lineGo w c ns := by
  induction ns with
  | nil => intro c _; rfl
  | cons n r ih =>
    have hr := fun m hm => h m (List.mem_cons_of_mem n hm)
    intro c hl
    unfold lineGo at hl ⊢
    by_cases f : c + 1 + n ≤ w
    · rw [if_pos f] at hl ⊢
      obtain ⟨l, h1, h2⟩ := lineGo_ge w (c + 1 + n) r hr
      have := hl l h1
      rw [if_pos (by omega)]
      exact ih hr _ hl
    · rw [if_neg f] at hl ⊢
      rw [if_neg (by omega), ih hr n fun l hl' => hl l (List.mem_cons_of_mem _ hl')]
theorem lawWrap_max {ns : List Int} (h : ∀ n ∈ ns, 1 ≤ n) {w m : Int} (hm : m ≤ w) (hl : ∀ l ∈ lawWrap ns w, l ≤ m) : lawWrap ns m = lawWrap ns w := by
  cases ns with
  | nil => rfl
  | cons n r =>
    rw [lawWrap_cons] at hl ⊢
    rw [lawWrap_cons]
    exact lineGo_max hm r (fun m hm => h m (List.mem_cons_of_mem n hm)) n hl
/-! ### the beginning of a text -/
theorem lawWrap_prefix {ns : List Int} (w : Int) {m : Nat} (h0 : 1 ≤ m) (hne : ns ≠ []) : (lawWrap (ns.take m) w).dropLast = (lawWrap ns w).take ((lawWrap (ns.take m) w).length - 1) := by
  have e : lawWrap ns w = (ns.drop m).foldl (lineStep w) (lawWrap (ns.take m) w) := by
    unfold lawWrap
    rw [← List.foldl_append, List.take_append_drop]
  have hp : lawWrap (ns.take m) w ≠ [] := by
    cases ns with
    | nil => exact (hne rfl).elim
    | cons n r =>
      cases m with
      | zero => omega
      | succ m =>
        rw [List.take_succ_cons, lawWrap_cons]
        exact lineGo_ne _ _ _
  generalize lawWrap (ns.take m) w = part at e hp
  rcases List.eq_nil_or_concat part with rfl | ⟨ys, c, rfl⟩
  · exact (hp rfl).elim
  · rw [List.concat_eq_append] at e ⊢
    rw [e, lines_fold]
    simp
theorem ends_snoc {ns : List Int} (h : ns ≠ []) : (endsOf ns).dropLast ++ [total ns] = endsOf ns := by
  have hne : endsOf ns ≠ [] := by
    intro e
    have := congrArg List.length e
    rw [endsOf_len] at this
    exact h (List.length_eq_zero_iff.mp this)
  have h1 := List.dropLast_concat_getLast hne
  have h2 := endsOf_last h
  rw [List.getLast?_eq_some_getLast hne] at h2
  rw [← Option.some.inj h2]
  exact h1
theorem endsOf_ne {ns : List Int} (h : ns ≠ []) : endsOf ns ≠ [] := by
  intro e
  have := congrArg List.length e
  rw [endsOf_len] at this
  exact h (List.length_eq_zero_iff.mp this)
/-- the last of the stops within the room of a line, or the first one behind its start -/
theorem near_last {all : List Int} {w s e : Int} (h : IsNx all w s e) (hp : all.Pairwise (· ≤ ·)) (hne : (all.filter fun t => decide (s < t) && decide (t ≤ s + w)) ≠ []) : (all.filter fun t => decide (s < t) && decide (t ≤ s + w)).getLast? = some e := by
  obtain ⟨h1, h2, h3, h4⟩ := h
  have hm : ∀ t, t ∈ (all.filter fun t => decide (s < t) && decide (t ≤ s + w)) ↔ t ∈ all ∧ s < t ∧ t ≤ s + w := by
    intro t
    simp [List.mem_filter]
  have he : e ∈ (all.filter fun t => decide (s < t) && decide (t ≤ s + w)) := by
    rw [hm]
    refine ⟨h1, h2, ?_⟩
    rcases h4 with h4 | h4
    · exact h4
    · obtain ⟨t, ht⟩ := List.exists_mem_of_ne_nil _ hne
      rw [hm] at ht
      have := h4 t ht.1 ht.2.1
      omega
  have hp2 := hp.sublist (List.filter_sublist (p := fun t => decide (s < t) && decide (t ≤ s + w)) (l := all))
  generalize (all.filter fun t => decide (s < t) && decide (t ≤ s + w)) = near at hne hm he hp2
  rw [List.getLast?_eq_some_getLast hne]
  congr 1
  have hl : near.getLast hne ∈ near := List.getLast_mem hne
  have h5 := (hm _).mp hl
  have h6 := h3 _ h5.1 h5.2.1 h5.2.2
  have h7 : e ≤ near.getLast hne := by
    rw [← List.dropLast_concat_getLast hne] at he hp2
    rcases List.mem_append.mp he with he | he
    · exact (List.pairwise_append.mp hp2).2.2 e he _ (by simp)
    · rw [List.mem_singleton.mp he]
      exact Int.le_refl _
  omega
theorem near_min {all : List Int} {w s e : Int} (h : IsNx all w s e) (hne : (all.filter fun t => decide (s < t) && decide (t ≤ s + w)) = []) {m : Int} (hm : m ∈ all.filter fun t => decide (t > s)) (hle : ∀ y ∈ all.filter (fun t => decide (t > s)), m ≤ y) : m = e := by
  obtain ⟨h1, h2, h3, h4⟩ := h
  have hm' : m ∈ all ∧ m > s := by simpa [List.mem_filter] using hm
  have h5 := hle e (by simp [List.mem_filter]; exact ⟨h1, h2⟩)
  rcases h4 with h4 | h4
  · have : e ∈ (all.filter fun t => decide (s < t) && decide (t ≤ s + w)) := by
      simp [List.mem_filter]
      exact ⟨h1, h2, h4⟩
    rw [hne] at this
    cases this
  · have := h4 m hm'.1 hm'.2
    omega
theorem ends_le {ns : List Int} (ht : Txt' ns) : (endsOf ns).Pairwise (· ≤ ·) := (ends_pair (-1) ns ht.2.1).1
theorem Txt'.take {ns : List Int} (h : Txt' ns) {m : Nat} (hm : 1 ≤ m) : Txt' (ns.take m) := by
  obtain ⟨h0, h1, h2⟩ := h
  refine ⟨?_, fun n hn => h1 n (List.take_subset _ _ hn), ?_⟩
  · intro e
    have := congrArg List.length e
    rw [List.length_take, List.length_nil] at this
    have := List.length_pos_iff.mpr h0
    omega
  · have e : ns.sum = (ns.take m).sum + (ns.drop m).sum := by rw [← List.sum_append, List.take_append_drop]
    have h3 := total_nonneg_len (ns.drop m) fun n hn => h1 n (List.drop_subset _ _ hn)
    have h4 : ns.length = (ns.take m).length + (ns.drop m).length := by rw [← List.length_append, List.take_append_drop]
    unfold total at h2 ⊢
    omega
end Wc

/-! a deck of draws. -/
namespace Wc
open PySem PySem.Spec PyProof.Rows L2

/-- what stood ahead stands, what is written of S aside -/
def SameS (S : List Addr) (H H' : Hp) : Prop := ∀ b o, b ∉ S → H b = some o → H' b = some o
theorem SameS.refl (S : List Addr) (H : Hp) : SameS S H H := fun _ _ _ h => h
theorem SameS.trans {S : List Addr} {H H1 H2 : Hp} (s : SameS S H H1) (t : SameS S H1 H2) : SameS S H H2 := fun b o n h => t b o n (s b o n h)
theorem SameS.of {S : List Addr} {H H' : Hp} (s : Same H H') : SameS S H H' := fun b o _ h => s b o h
theorem SameS.all {S : List Addr} {H H1 H2 : Hp} (s0 : Same H H1) (n : ∀ b ∈ S, H b = Option.none) (s : SameS S H1 H2) : Same H H2 := fun b o e => s b o (fun hb => by
  rw [n b hb] at e
  cases e) (s0 b o e)
theorem SameS.at {S : List Addr} {H H' : Hp} {b : Addr} {o : HO} (s : SameS S H H') (n : b ∉ S) (h : H b = some o) : H' b = some o := s b o n h
theorem SameS.il {S : List Addr} {H H' : Hp} {b : Addr} {ns : List Int} (s : SameS S H H') (n : b ∉ S) (h : IL H b ns) : IL H' b ns := s b _ n h
theorem SameS.upd {S : List Addr} {H : Hp} {a : Addr} {o : HO} (h : a ∈ S) : SameS S H (upd H a o) := fun b x n e => by
  rw [upd_ne (fun z => n (by rw [z]; exact h))]
  exact e
theorem SameS.mut {S : List Addr} {H H' : Hp} {p : Addr} {u : HO} (s : SameS S H H') (h : H p = Option.none) : SameS S H (L2.upd H' p u) := fun b x n e => by
  rw [upd_ne (ne_of_none e h)]
  exact s b x n e
theorem SameS.dp {S : List Addr} {K : PySem.W.Frag} {H H' : Hp} {v : V} {d : PyData} (s : SameS S H H') (h : ∀ H'', (∀ b o, b ∉ S → H b = some o → H'' b = some o) → Dp K H'' v d) : Dp K H' v d := h H' s
/-- a pool of a deck -/
def Pool (H : Hp) (n : Nat) (b : Addr) : Prop := ∃ c f m : Int, H b = some (.lst [.int c, .int f, .int m]) ∧ 0 ≤ m ∧ m ≤ 2000 + n
/-- the deck stands at a, its list of pools and its pools at qs: less than so many draws so far -/
structure Deck (H : Hp) (a : Addr) (qs : List Addr) (n : Nat) : Prop where
  ex : ∃ (p : Addr) (ps : List Addr) (t : Int), qs = p :: ps ∧ H a = some (.lst [.ref p, .int t]) ∧ H p = some (.lst (ps.map V.ref)) ∧ 0 ≤ t ∧ t ≤ n ∧ ps ≠ [] ∧ ∀ b ∈ ps, Pool H n b
  nd : (a :: qs).Nodup
theorem Pool.same {H H' : Hp} {n : Nat} {b : Addr} (s : Same H H') (h : Pool H n b) : Pool H' n b := let ⟨c, f, m, e, r⟩ := h; ⟨c, f, m, s _ _ e, r⟩
theorem Pool.mono {H : Hp} {n n' : Nat} {b : Addr} (h : Pool H n b) (l : n ≤ n') : Pool H n' b := let ⟨c, f, m, e, h1, h2⟩ := h; ⟨c, f, m, e, h1, by omega⟩
theorem Deck.same {H H' : Hp} {a : Addr} {qs : List Addr} {n : Nat} (s : Same H H') (h : Deck H a qs n) : Deck H' a qs n := by
  obtain ⟨⟨p, ps, t, h0, h1, h2, h3, h4, h5, h6⟩, h7⟩ := h
  exact ⟨⟨p, ps, t, h0, s _ _ h1, s _ _ h2, h3, h4, h5, fun b hb => (h6 b hb).same s⟩, h7⟩
theorem Deck.mono {H : Hp} {a : Addr} {qs : List Addr} {n m : Nat} (h : Deck H a qs n) (l : n ≤ m) : Deck H a qs m := by
  obtain ⟨⟨p, ps, t, h0, h1, h2, h3, h4, h5, h6⟩, h7⟩ := h
  exact ⟨⟨p, ps, t, h0, h1, h2, h3, by omega, h5, fun b hb => (h6 b hb).mono l⟩, h7⟩
/-- a new object is none of the deck's -/
theorem Deck.fresh {H : Hp} {a : Addr} {qs : List Addr} {n : Nat} {x : Addr} (h : Deck H a qs n) (hx : H x = Option.none) : x ∉ a :: qs := by
  obtain ⟨⟨p, ps, t, rfl, h1, h2, h3, h4, h5, h6⟩, h7⟩ := h
  intro hm
  rcases List.mem_cons.mp hm with rfl | hm
  · rw [hx] at h1
    cases h1
  · rcases List.mem_cons.mp hm with rfl | hm
    · rw [hx] at h2
      cases h2
    · obtain ⟨c, f, m, e, _⟩ := h6 x hm
      rw [hx] at e
      cases e
theorem Deck.new {H : Hp} {a x : Addr} {qs : List Addr} {n : Nat} {u : HO} (h : Deck H a qs n) (hx : H x = Option.none) : Deck (upd H x u) a qs n := h.same (same_new hx)
/-- what is none of the deck's may change -/
theorem Deck.mut {H : Hp} {a x : Addr} {qs : List Addr} {n : Nat} {u : HO} (h : Deck H a qs n) (hx : x ∉ a :: qs) : Deck (upd H x u) a qs n := by
  obtain ⟨⟨p, ps, t, rfl, h1, h2, h3, h4, h5, h6⟩, h7⟩ := h
  have hxa : a ≠ x := fun e => hx (by rw [e]; exact List.mem_cons_self ..)
  have hxp : p ≠ x := fun e => hx (by rw [e]; exact List.mem_cons_of_mem _ (List.mem_cons_self ..))
  refine ⟨⟨p, ps, t, rfl, at_mut h1 hxa, at_mut h2 hxp, h3, h4, h5, fun b hb => ?_⟩, h7⟩
  obtain ⟨c, f, m, e, r⟩ := h6 b hb
  exact ⟨c, f, m, at_mut e (fun e => hx (by rw [← e]; exact List.mem_cons_of_mem _ (List.mem_cons_of_mem _ hb))), r⟩
/-- what the deck's objects are no part of stands where it stood ahead -/
theorem SameS.free {S : List Addr} {H H' : Hp} {x : Addr} (s : SameS S H H') (n : x ∉ S) (h : H' x = Option.none) : H x = Option.none := by
  cases e : H x with
  | none => rfl
  | some o =>
    have := s x o n e
    rw [h] at this
    cases this
theorem ne_of_notin {x b : Addr} {S : List Addr} (h : x ∉ S) (hb : b ∈ S) : x ≠ b := fun e => h (by rw [e]; exact hb)
theorem Deck.draw {H : Hp} {a p b : Addr} {ps : List Addr} {n : Nat} {t c f m : Int} (h : Deck H a (p :: ps) n) (ha : H a = some (.lst [.ref p, .int t])) (hb : b ∈ ps) (h1 : 0 ≤ m) (h2 : m ≤ 2000 + (n + 1 : Nat)) :
    Deck (upd (upd H a (.lst [.ref p, .int (t + 1)])) b (.lst [.int c, .int f, .int m])) a (p :: ps) (n + 1) := by
  obtain ⟨⟨p', ps', t', e0, e1, e2, t1, t2, ne, hp⟩, nd⟩ := h
  rw [ha] at e1
  cases e1
  cases e0
  obtain ⟨na, nd2⟩ := List.nodup_cons.mp nd
  obtain ⟨n2, nd3⟩ := List.nodup_cons.mp nd2
  have hab : a ≠ b := fun e => na (by rw [e]; exact List.mem_cons_of_mem _ hb)
  have hpb : p ≠ b := fun e => n2 (by rw [e]; exact hb)
  have hpa : p ≠ a := fun e => na (by rw [e]; exact List.mem_cons_self ..)
  refine ⟨⟨p, ps, t + 1, rfl, ?_, ?_, by omega, by omega, ne, fun x hx => ?_⟩, nd⟩
  · rw [upd_ne hab, upd_same]
  · rw [upd_ne hpb, upd_ne hpa]
    exact e2
  · by_cases c1 : x = b
    · rw [c1]
      exact ⟨_, _, _, upd_same, h1, h2⟩
    · obtain ⟨c', f', m', e', r1, r2⟩ := hp x hx
      have hxa : x ≠ a := fun e => na (by rw [← e]; exact List.mem_cons_of_mem _ hx)
      exact ⟨c', f', m', by rw [upd_ne c1, upd_ne hxa]; exact e', r1, by omega⟩
theorem fmod_rng (c m : Int) (hm : 0 < m) : 0 ≤ Int.fmod c m ∧ Int.fmod c m < m := ⟨Int.fmod_nonneg_of_pos c hm, Int.fmod_lt_of_pos c hm⟩
theorem wide_of {i j : Int} (hi : i.natAbs < 2 ^ 4000) (hj : j.natAbs < 2 ^ 4000) : CMulW i j := wide_mul hi hj (by decide) (by decide) (by decide)
theorem small_of {i : Int} {k : Nat} (h : i.natAbs < 2 ^ k) (hk : k ≤ 4000) : i.natAbs < 2 ^ 4000 := Nat.lt_of_lt_of_le h (Nat.pow_le_pow_right (by decide) hk)
theorem isi_seq {K : PySem.W.Frag} (o : Option PyData) : PySem.W.kitAny K (.type (cls o)) [.type "list", .type "tuple"] = some (match o with | some (.list _) => true | some (.tuple _) => true | _ => false) := by
  unfold PySem.W.kitAny
  rw [isi_list, isI_list]
  unfold PySem.W.kitAny
  rw [isi_tuple, isI_tuple]
  cases o with
  | none => rfl
  | some d => cases d <;> rfl
theorem Dp.ty {K : PySem.W.Frag} {H : Hp} {v : V} {d : PyData} (h : Dp K H v d) : TyX K H v (.type (cls (some d))) := by
  cases h with
  | non => exact .base .non
  | bl b => exact .base (.bl b)
  | int i => exact .base (.int i)
  | str x => exact .base (.str x)
  | lst h _ => exact SqL.ty h
  | tup h _ => exact SqT.ty h
theorem lay_mem {d : PyData} : ∀ {ds : List PyData}, PyData.canLayAll0 ds = true → d ∈ ds → d.canLay0 = true
  | e :: ds, h, hm => by
    have h1 : e.canLay0 = true ∧ PyData.canLayAll0 ds = true := by simpa [PyData.canLayAll0] using h
    rcases List.mem_cons.mp hm with rfl | hm
    · exact h1.1
    · exact lay_mem h1.2 hm
theorem depth_mem {d : PyData} : ∀ {ds : List PyData}, d ∈ ds → d.depth ≤ PyData.depthAll ds
  | e :: ds, hm => by
    rw [PyData.depthAll]
    rcases List.mem_cons.mp hm with rfl | hm
    · exact Nat.le_max_left _ _
    · exact Nat.le_trans (depth_mem hm) (Nat.le_max_right _ _)
/-- zip of two tuples, turn by turn -/
theorem walk_zipTT {K : PySem.W.Frag} {a b : Addr} {xs ys : List V} (hl : ys.length = xs.length) : Walk (RZ.ItzT K a b) xs.length (fun H => SqT K H a xs ∧ SqT K H b ys) (YPair (fun i => xs[i]?) (fun i => ys[i]?)) where
  goes := fun i H hi q => ⟨xs, ys, xs[i], ys[i]'(by omega), q.1, q.2, List.getElem?_eq_getElem hi, List.getElem?_eq_getElem (by omega)⟩
  stops := fun H q => ⟨xs, ys, q.1, q.2, .inl (Nat.le_refl _)⟩
  yields := fun i H v H' _ q y => by
    obtain ⟨T, u, z, g1, g2, g3, g4, g5⟩ := y
    exact ⟨T, u, z, g1, g2, g3, g4 _ q.1, g5 _ q.2⟩
theorem lc_noneZT {K : PySem.W.Frag} {a b D : Addr} {xs ys : List V} {j k : Nat} {tt : TT} {te : TE} {vs : List Nat} {σ : L2.St} {H1 : Hp} {Qd : Hp → Prop} (hl : ys.length = xs.length) (hA : SqT K H1 a xs) (hB : SqT K H1 b ys) (nD : H1 D = Option.none)
    (hs : ∀ (i : Nat) (x y : V) (H' : Hp), xs[i]? = some x → ys[i]? = some y → Same H1 H' → Evt tt (((wipe σ vs).set j (some x)).set k (some y)) H' false) (hd : ∀ H', Same H1 H' → H' D = some (.lst []) → Qd H')
    (hw : ∀ x y : V, wipe (((wipe σ vs).set j (some x)).set k (some y)) vs = wipe σ vs := by intro x y; rfl) :
    ∃ W : Nat → Nat → Hp → Prop, (∃ m, W 0 m (upd H1 D (.lst []))) ∧ ∀ i m H, W i m H →
      ((RZ.ItzT K a b).stop i H ∧ Qd H) ∨ ((RZ.ItzT K a b).go i H ∧ ∃ Nx : Hp → Prop, (∀ H', Nx H' → ∃ m', m' < m ∧ W (i + 1) m' H') ∧ ∀ x H', (RZ.ItzT K a b).yld i H x H' → gTup K 2 (gCons (gName j) (gCons (gName k) gNil)) x (wipe σ vs) H' fun σ2 H2 => wipe σ2 vs = wipe σ vs ∧ tt σ2 H2 fun b H3 =>
        if b = true then te σ2 H3 fun y H4 => ∃ acc, H4 D = some (.lst acc) ∧ acc.length < sizeLine ∧ Nx (upd H4 D (.lst (acc ++ [y]))) else Nx H3) := by
  refine lc_it (n := xs.length) (walk_zipTT hl) (fun i H => Same H1 H ∧ H D = some (.lst [])) ⟨same_new nD, upd_same⟩ (fun i H _ hp => ⟨SqT.same hp.1 hA, SqT.same hp.1 hB⟩) ?_ ?_
  · rintro i v H H' hi ⟨sm, eD⟩ ⟨T, x, y, rfl, nT, rfl, hx, hy⟩
    have sT : Same H (upd H T (.tup [x, y])) := same_new nT
    refine ⟨T, [x, y], rfl, .inl (.inl upd_same), rfl, x, [y], rfl, y, [], rfl, rfl, hw x y, ?_⟩
    refine hs i x y _ hx hy (sm.trans sT) _ fun H3 s3 => ?_
    rw [if_neg (by decide)]
    exact ⟨(sm.trans sT).trans s3, s3 _ _ (sT _ _ eD)⟩
  · rintro H ⟨sm, eD⟩
    exact hd H sm eD
theorem Txt'.drop {ns : List Int} (h : Txt' ns) {m : Nat} (hm : m < ns.length) : Txt' (ns.drop m) := by
  obtain ⟨h0, h1, h2⟩ := h
  refine ⟨?_, fun n hn => h1 n (List.drop_subset _ _ hn), ?_⟩
  · intro e
    have := congrArg List.length e
    rw [List.length_drop, List.length_nil] at this
    omega
  · have e : ns.sum = (ns.take m).sum + (ns.drop m).sum := by rw [← List.sum_append, List.take_append_drop]
    have h3 := total_nonneg_len (ns.take m) fun n hn => h1 n (List.take_subset _ _ hn)
    have h4 : ns.length = (ns.take m).length + (ns.drop m).length := by rw [← List.length_append, List.take_append_drop]
    unfold total at h2 ⊢
    omega
end Wc

/-! rules whose readings name the written part K itself: they serve inside comprehensions. -/
namespace Wc
open PySem PySem.Spec PyProof.Rows L2
section
variable {X : Cx} {K : PySem.W.Frag}
def rLenQ (K : PySem.W.Frag) : List V → Hp → VK → Prop := fun xs H Q => ∃ p ys, xs = [.ref p] ∧ (SqL K H p ys ∨ SqT K H p ys) ∧ Q (.int ys.length) H
theorem kLen (e : X.K = K) : CallR X (.builtin "len") (rLenQ K) := by
  subst e
  exact call_len_seq
theorem kIsi (e : X.K = K) : CallR X (.builtin "isinstance") (rIsi K) := by
  subst e
  exact call_isi
theorem kIsiT (e : X.K = K) : CallR X (.builtin "isinstance") (rIsiT K) := by
  subst e
  exact call_isiT
theorem kSum (e : X.K = K) (hc : X.calm = true) : CallR X (.builtin "sum") (rSum K) := by
  subst e
  exact cr_sum hc
theorem kMax (e : X.K = K) (hc : X.calm = true) : CallR X (.builtin "max") (rMax K) := by
  subst e
  exact cr_max hc
theorem kMin (e : X.K = K) (hc : X.calm = true) : CallR X (.builtin "min") (rMin K) := by
  subst e
  exact cr_min hc
theorem kAll (e : X.K = K) (hc : X.calm = true) : CallR X (.builtin "all") (rAll K) := by
  subst e
  exact cr_all hc
theorem kAny (e : X.K = K) (hc : X.calm = true) : CallR X (.builtin "any") (rAny K) := by
  subst e
  exact cr_any hc
theorem kSorted (e : X.K = K) : CallR X (.builtin "sorted") (rSortedI K) := by
  subst e
  exact cr_sortedI
theorem kIx (e : X.K = K) : IxR X (rIxL K) := by
  subst e
  exact ix_list
theorem kSl (e : X.K = K) : SlR X (rSlL K) := by
  subst e
  exact sl_list
theorem kEqD (e : X.K = K) (hu : X.A.units + 64 < cLine) : OpR X (compareOp .Eq) (rEqD K) := by
  subst e
  exact op_eqD hu
theorem kNeD (e : X.K = K) (hu : X.A.units + 64 < cLine) : OpR X (compareOp .NotEq) (rNeD K) := by
  subst e
  exact op_neD hu
theorem kIn (e : X.K = K) : OpR X (compareOp .In) (rIn K false) := by
  subst e
  exact op_in_seq
theorem kNotIn (e : X.K = K) : OpR X (compareOp .NotIn) (rIn K true) := by
  subst e
  exact op_notIn_seq
end
theorem rgV_ints (n : Nat) : rgV 0 (n : Int) = iV ((List.range n).map fun i : Nat => (i : Int)) := by
  have e : ((n : Int) - 0).toNat = n := by omega
  show (List.range ((n : Int) - 0).toNat).map (fun i : Nat => V.int (0 + (i : Int))) = ((List.range n).map fun i : Nat => (i : Int)).map V.int
  rw [e, List.map_map]
  refine List.map_congr_left fun i _ => ?_
  show V.int (0 + (i : Int)) = V.int i
  congr 1
  omega
end Wc

/-! the words at which lines start. -/
namespace Wc
open PySem PySem.Spec PyProof.Rows L2

/-- the later lines' first words: k the next word's index, c the present line's length -/
def firstsGo (w : Int) : Nat → Int → List Int → List Int
  | _, _, [] => []
  | k, c, n :: r => if c + 1 + n ≤ w then firstsGo w (k + 1) (c + 1 + n) r else (k : Int) :: firstsGo w (k + 1) n r
/-- the first words of the lines, from word k on -/
def firstsOf (ns : List Int) (w : Int) (k : Nat) : List Int := match ns.drop k with
  | [] => []
  | n :: r => (k : Int) :: firstsGo w (k + 1) n r
theorem drop_get {ns : List Int} {k : Nat} {n : Int} (h : ns[k]? = some n) : ns.drop k = n :: ns.drop (k + 1) := by
  have h1 := (List.getElem?_eq_some_iff.mp h)
  obtain ⟨h2, h3⟩ := h1
  rw [← h3]
  exact List.drop_eq_getElem_cons h2
theorem firstsGo_len (w : Int) (r : List Int) : ∀ (k : Nat) (c : Int), (firstsGo w k c r).length ≤ r.length := by
  induction r with
  | nil => intro k c; simp [firstsGo]
  | cons n r ih =>
    intro k c
    unfold firstsGo
    split
    · have := ih (k + 1) (c + 1 + n)
      simp only [List.length_cons]
      omega
    · have := ih (k + 1) n
      simp only [List.length_cons]
      omega
theorem firstsOf_len (ns : List Int) (w : Int) (k : Nat) : (firstsOf ns w k).length ≤ ns.length := by
  unfold firstsOf
  cases e : ns.drop k with
  | nil => simp
  | cons n r =>
    have h1 := firstsGo_len w r (k + 1) n
    have h2 := congrArg List.length e
    rw [List.length_drop, List.length_cons] at h2
    simp only [List.length_cons]
    omega
theorem firstsGo_rng (w : Int) (r : List Int) : ∀ (k : Nat) (c : Int), ∀ x ∈ firstsGo w k c r, 0 ≤ x ∧ x < k + r.length := by
  induction r with
  | nil =>
    intro k c x hx
    simp [firstsGo] at hx
  | cons n r ih =>
    intro k c x hx
    unfold firstsGo at hx
    split at hx
    · have := ih _ _ x hx
      simp only [List.length_cons]
      omega
    · rcases List.mem_cons.mp hx with rfl | hx
      · simp only [List.length_cons]
        omega
      · have := ih _ _ x hx
        simp only [List.length_cons]
        omega
theorem firstsOf_rng {ns : List Int} {w : Int} {k : Nat} (x : Int) (hx : x ∈ firstsOf ns w k) : 0 ≤ x ∧ x < ns.length := by
  unfold firstsOf at hx
  split at hx
  · cases hx
  · next n r e =>
    have h2 := congrArg List.length e
    rw [List.length_drop, List.length_cons] at h2
    rcases List.mem_cons.mp hx with rfl | hx
    · omega
    · have := firstsGo_rng w r _ _ x hx
      omega
/-- the first word at which lines start in both wraps -/
def meetOf (ns : List Int) (w : Int) (i j : Nat) : Option Int := ((firstsOf ns w i).filter fun x => decide (x ∈ firstsOf ns w j)).head?
def optV : Option Int → V
  | some k => .int k
  | none => .non
def optD : Option Int → PyData
  | some k => .int k
  | none => .none
theorem opt_dp {K : PySem.W.Frag} {H : Hp} (o : Option Int) : Dp K H (optV o) (optD o) := by
  cases o with
  | none => exact .non
  | some k => exact .int k
theorem inV_ints (x : Int) : ∀ xs : List Int, inV (.int x) (iV xs) = decide (x ∈ xs)
  | [] => by simp [inV]
  | y :: ys => by
    have h := inV_ints x ys
    unfold inV at h ⊢
    show (V.int y :: iV ys).any (fun y => eqV y (V.int x)) = _
    rw [List.any_cons, h]
    by_cases c : y = x
    · subst c
      simp [eqV]
    · have c' : ¬ x = y := fun e => c e.symm
      simp [eqV, c, c']
theorem flat_ints (xs : List Int) : (iV xs).all flatV = true := by
  rw [List.all_map, List.all_eq_true]
  intro x _
  rfl
theorem firstsGo_asc (w : Int) (r : List Int) : ∀ (k : Nat) (c : Int), (firstsGo w k c r).Pairwise (· < ·) ∧ ∀ x ∈ firstsGo w k c r, (k : Int) ≤ x := by
  induction r with
  | nil => exact fun k c => ⟨.nil, fun x hx => by simp [firstsGo] at hx⟩
  | cons n r ih =>
    intro k c
    unfold firstsGo
    split
    · obtain ⟨a, b⟩ := ih (k + 1) (c + 1 + n)
      exact ⟨a, fun x hx => by have := b x hx; omega⟩
    · obtain ⟨a, b⟩ := ih (k + 1) n
      refine ⟨.cons (fun x hx => by have := b x hx; omega) a, fun x hx => ?_⟩
      rcases List.mem_cons.mp hx with rfl | hx
      · exact Int.le_refl _
      · have := b x hx
        omega
theorem firstsOf_asc (ns : List Int) (w : Int) (k : Nat) : (firstsOf ns w k).Pairwise (· < ·) := by
  unfold firstsOf
  split
  · exact .nil
  · next n r e =>
    obtain ⟨a, b⟩ := firstsGo_asc w r (k + 1) n
    exact .cons (fun x hx => by have := b x hx; omega) a
theorem asc_ext {xs ys : List Int} (h1 : xs.Pairwise (· < ·)) (h2 : ys.Pairwise (· < ·)) (h : ∀ z, z ∈ xs ↔ z ∈ ys) : xs = ys := by
  have n1 : xs.Nodup := h1.imp fun h => by omega
  have n2 : ys.Nodup := h2.imp fun h => by omega
  exact sort_uniq ((List.perm_ext_iff_of_nodup n1 n2).mpr h) (h1.imp fun h => by omega) (h2.imp fun h => by omega)
theorem meetOf_comm (ns : List Int) (w : Int) (i j : Nat) : meetOf ns w i j = meetOf ns w j i := by
  unfold meetOf
  congr 1
  refine asc_ext ((firstsOf_asc ns w i).sublist List.filter_sublist) ((firstsOf_asc ns w j).sublist List.filter_sublist) fun z => ?_
  simp only [List.mem_filter, decide_eq_true_eq]
  exact ⟨fun h => ⟨h.2, h.1⟩, fun h => ⟨h.2, h.1⟩⟩
theorem meetOf_rng {ns : List Int} {w : Int} {i j : Nat} {k : Int} (h : meetOf ns w i j = some k) : 0 ≤ k ∧ k < ns.length := by
  unfold meetOf at h
  have := List.mem_of_mem_head? (by rw [h]; rfl)
  exact firstsOf_rng k (List.mem_filter.mp this).1
theorem Nc.opt {ns : List Int} {w : Int} {i j : Nat} (hl : ns.length ≤ 1000) : Nc 2000 0 (optD (meetOf ns w i j)) := by
  cases e : meetOf ns w i j with
  | none => exact Nc.non.mono (by decide) (Nat.le_refl _)
  | some k =>
    have := meetOf_rng e
    exact Nc.int (sm_of (by omega))
end Wc

/-! calls within a try: what the callee lets out goes to the handler, at the slots as they stand. -/
namespace Wc
open PySem PySem.Spec PyProof.Rows L2
section
variable {X : Cx} {CX : CXT} {k : Nat} {x : Str} {ps ks : List Str} {is : List Nat} {dvs : List V} {sp : Sp} {E : L2.St → XK} {p pos : Pos} {e : Expr} {es : List Expr} {kws : List Keyword} {t tk : TA}
theorem pe_calS (c : Cal X.prog X.w X.K X.mg X.base CX k x ps dvs sp) (hr : Room k X.A) (hx : ∀ σ, PassesAt CX X σ (E σ)) (ha : PA X (e :: es) t) (hg : Gl X x := by rfl) (hdb : (x == ("__debug__" : Str)) = false := by decide)
    (he : starEach (e :: es) X.env = (false, eval e X.env) :: starEach es X.env := by rfl) (hpl : (backTo pos (starEach es X.env)).any (·.1) = false := by rfl) :
    PE X (.Call (.Name x p) (e :: es) [] pos) (tCallSD sp dvs E t) := by
  obtain ⟨f, fd, ds, F, hm, hk, hd, hb⟩ := c.ex
  exact pe_callSD F hr hg hm hk hb hd hx ha hdb he hpl
def tCKS (m : Nat) (is : List Nat) (sp : Sp) (E : L2.St → XK) (tk : TA) : TE := fun σ H Q => tk σ H fun zs H1 => zs.length = m ∧ sp (is.map fun i => zs.getD i .non) H1 Q (E σ)
theorem pe_calKS (c : CalK X.prog X.w X.K X.mg X.base CX k x ps ks is sp) (hr : Room k X.A) (hx : ∀ σ, PassesAt CX X σ (E σ)) (hkw : PK X kws tk) (hg : Gl X x := by rfl)
    (hall : (backToKw pos (keywordEach kws X.env)).all (·.1.isSome) = true := by rfl) (hks : (backToKw pos (keywordEach kws X.env)).filterMap (·.1) = ks := by rfl) (hdb : (x == ("__debug__" : Str)) = false := by decide)
    (hpl : ((backTo pos (starEach [] X.env)).any (·.1) || (backToKw pos (keywordEach kws X.env)).any (·.1.isNone)) = false := by rfl) :
    PE X (.Call (.Name x p) [] kws pos) (tCKS ks.length is sp E tk) := by
  obtain ⟨f, fd, F, hm, hk, hb⟩ := c.ex
  constructor
  intro pins s σ H Q I h
  refine wpAny_Call_Name_kw (ld_glob I hg hm ?_ hdb)
  refine PySem.W.callWith_KW0 (h₀ := X.base) I.ok.mod.kin hk hall (thn (hkw.run pos pins s σ H _ I h) ?_) hpl
  rintro ws s2 ⟨zs, H2, I2, rz, l2, q2⟩
  refine ⟨I2.kIn, ?_⟩
  rw [hks]
  have bt := hb.to s2 [] ws I2.kIn rfl (rz.length.symm.trans l2)
  have vr := hb.rel (.nil) rz
  refine wpAny_call (codeAny_mono (F.run X.A X.stack s2 H2 _ _ _ Q (E σ) hr I2.env0 bt vr q2) ?_)
  rintro (err | fl) s3 hq
  · exact hx σ pins H2 s2 err s3 I2 hq
  · cases fl with
    | next => exact hq.elim
    | ret u => exact I2.after hq
    | brk => exact hq.elim
    | cont => exact hq.elim
end
/-- the handler's class, and whether it takes what is raised -/
theorem exm_fact {K : PySem.W.Frag} {x y : Str} {b : Bool} (c : (He.Fa.exm x y b).ok K = true) : PySem.W.exmOne K (xc K x) (xc K y) = some b := He.exm_ok c
/-- a method call within a comprehension: the written part by its own name -/
theorem bmK {X : Cx} {K : PySem.W.Frag} {ex : Expr} {T : String} {r : V → List V → Hp → VK → Prop} {to : TE} {t : TA} (e : X.K = K) (h : PE X ex (tBM X.K T r to t)) : PE X ex (tBM K T r to t) := by
  subst e
  exact h
end Wc

/-! texts from any spaces. -/
namespace Wc
open PySem PySem.Spec PyProof.Rows L2
theorem total_lengths {es : List Int} (h : es ≠ []) : es.getLast? = some (total (lengthsOf es)) := by
  have hne : lengthsOf es ≠ [] := by
    intro e
    have := congrArg List.length e
    unfold lengthsOf at this
    rw [lenFrom_len, List.length_nil] at this
    exact h (List.length_eq_zero_iff.mp this)
  have := endsOf_last hne
  rwa [ends_lengths] at this
theorem textOf_spots {c : Int} {ns : List Int} (h1 : 1 ≤ c) (h2 : c ≤ 600) (hs : ∀ n ∈ ns, 0 ≤ n) :
    ((∀ x ∈ lengthsOf (srt ns ++ [c]), 0 < x) → textOf (.int c) (some (.list (ns.map .int))) = some (lengthsOf (srt ns ++ [c]))) ∧ ((¬ ∀ x ∈ lengthsOf (srt ns ++ [c]), 0 < x) → textOf (.int c) (some (.list (ns.map .int))) = none) := by
  have hall : (ns.map PyData.int).all isSpot = true := by
    rw [List.all_map, List.all_eq_true]
    intro n hn
    exact decide_eq_true (hs n hn)
  have htot : total (lengthsOf (srt ns ++ [c])) = c := by
    have := total_lengths (es := srt ns ++ [c]) (by simp)
    simp at this
    exact this.symm
  have hiff := areLengths_ints (lengthsOf (srt ns ++ [c]))
  unfold textOf
  dsimp only
  rw [lens_ints]
  constructor
  · intro h
    have hne : lengthsOf (srt ns ++ [c]) ≠ [] := by
      intro e
      have := congrArg List.length e
      unfold lengthsOf at this
      rw [lenFrom_len] at this
      simp at this
    rw [if_pos ⟨h1, h2, hall, hiff.mpr ⟨hne, fun x hx => h x hx, by rw [htot]; exact h2⟩⟩]
  · intro h
    rw [if_neg]
    rintro ⟨_, _, _, h4⟩
    exact h fun x hx => (hiff.mp h4).2.1 x hx
theorem seqIx_nn {r : Int} {n : Nat} (h0 : 0 ≤ r) (h1 : r < n) : seqIndex? r n = some r.toNat := by
  unfold seqIndex?
  simp only [Bool.and_eq_true, decide_eq_true_eq]
  split <;> split <;> first | rfl | omega
theorem erase_ints : ∀ (xs : List Int) (k : Nat), (iV xs).eraseIdx k = iV (xs.eraseIdx k)
  | [], _ => rfl
  | _ :: _, 0 => rfl
  | x :: xs, k + 1 => by
    show V.int x :: (iV xs).eraseIdx k = V.int x :: iV (xs.eraseIdx k)
    rw [erase_ints xs k]
theorem set_ints : ∀ (xs : List Int) (k : Nat) (z : Int), (iV xs).set k (.int z) = iV (xs.set k z)
  | [], _, _ => rfl
  | _ :: _, 0, _ => rfl
  | x :: xs, k + 1, z => by
    show V.int x :: (iV xs).set k (.int z) = V.int x :: iV (xs.set k z)
    rw [set_ints xs k z]
theorem ixN_zero {n : Nat} (h : 0 < n) : ixN n 0 = some 0 := by
  unfold ixN
  rw [if_pos (by decide), if_pos (by omega)]
  rfl
theorem textOf_txt {cv : V} {o : Option PyData} {t : List Int} (h : textOf cv o = some t) : Txt' t := by
  unfold textOf at h
  split at h
  · split at h
    · next h4 =>
      rw [← Option.some.inj h]
      exact (areLengths_ints _).mp h4.2.2.2
    · cases h
  · cases h
end Wc

/-! words replaced. -/
namespace Wc
open PySem PySem.Spec PyProof.Rows L2
theorem DpAll.app {K : PySem.W.Frag} {H : Hp} : ∀ {xs ys : List V} {ds es : List PyData}, DpAll K H xs ds → DpAll K H ys es → DpAll K H (xs ++ ys) (ds ++ es)
  | _, _, _, _, .nil, h => h
  | _, _, _, _, .cons h1 h2, h => .cons h1 (DpAll.app h2 h)
/-- replace_words, or none where the new text is none -/
def replData (ns : List Int) (f c : Nat) (ds : List PyData) : List PyData := (ns.take f).map .int ++ ds ++ (ns.drop (f + c)).map .int
def replOf (ns : List Int) (f c : Nat) (o : Option PyData) : Option (List Int) := match o with
  | some (.list ds) => if areLengths (some (.list (replData ns f c ds))) = true then some ((replData ns f c ds).map lenOf) else none
  | _ => none
theorem replOf_ints (ns : List Int) (f c : Nat) (ms : List Int) : (Txt' (ns.take f ++ ms ++ ns.drop (f + c)) → replOf ns f c (some (.list (ms.map .int))) = some (ns.take f ++ ms ++ ns.drop (f + c))) ∧ (¬ Txt' (ns.take f ++ ms ++ ns.drop (f + c)) → replOf ns f c (some (.list (ms.map .int))) = none) := by
  have e : replData ns f c (ms.map .int) = (ns.take f ++ ms ++ ns.drop (f + c)).map .int := by
    unfold replData
    rw [List.map_append, List.map_append]
  have h := areLengths_ints (ns.take f ++ ms ++ ns.drop (f + c))
  unfold replOf
  dsimp only
  rw [e, lens_ints]
  constructor
  · intro ht
    rw [if_pos (h.mpr ht)]
  · intro ht
    rw [if_neg fun g => ht (h.mp g)]
theorem lay_app {xs ys : List PyData} (h1 : PyData.canLayAll0 xs = true) (h2 : PyData.canLayAll0 ys = true) : PyData.canLayAll0 (xs ++ ys) = true := by
  induction xs with
  | nil => exact h2
  | cons x xs ih =>
    have h : x.canLay0 = true ∧ PyData.canLayAll0 xs = true := by simpa [PyData.canLayAll0] using h1
    rw [List.cons_append, PyData.canLayAll0, h.1, ih h.2]
    rfl
theorem depth_app (xs ys : List PyData) : PyData.depthAll (xs ++ ys) = max (PyData.depthAll xs) (PyData.depthAll ys) := by
  induction xs with
  | nil => simp [PyData.depthAll]
  | cons x xs ih => rw [List.cons_append, PyData.depthAll, PyData.depthAll, ih, Nat.max_assoc]
theorem repl_shaped {ns : List Int} {f c : Nat} {ds : List PyData} (h : SeqAt.shaped (.list ds) = true) : SeqAt.shaped (.list (replData ns f c ds)) = true := by
  unfold SeqAt.shaped at h ⊢
  rw [Bool.and_eq_true] at h ⊢
  obtain ⟨h1, h2⟩ := h
  have h2' := of_decide_eq_true h2
  rw [PyData.depth] at h2'
  rw [PyData.canLay0] at h1
  constructor
  · rw [PyData.canLay0]
    exact lay_app (lay_app (canLay_ints _) h1) (canLay_ints _)
  · refine decide_eq_true ?_
    rw [PyData.depth]
    unfold replData
    rw [depth_app, depth_app, depth_ints, depth_ints]
    omega
end Wc

/-! how many entries two lists begin with alike. -/
namespace Wc
open PySem PySem.Spec PyProof.Rows L2
def comPre : List Int → List Int → Nat
  | x :: xs, y :: ys => if x = y then comPre xs ys + 1 else 0
  | _, _ => 0
theorem comPre_le : ∀ xs ys : List Int, comPre xs ys ≤ xs.length ∧ comPre xs ys ≤ ys.length
  | x :: xs, y :: ys => by
    have := comPre_le xs ys
    unfold comPre
    split <;> simp only [List.length_cons] <;> omega
  | [], _ => by simp [comPre]
  | _ :: _, [] => by simp [comPre]
/-- so many entries alike, and the next ones not -/
theorem comPre_of : ∀ {xs ys : List Int} {n : Nat}, (∀ i, i < n → ∃ z, xs[i]? = some z ∧ ys[i]? = some z) → (∀ x y, xs[n]? = some x → ys[n]? = some y → x ≠ y) → n ≤ xs.length → n ≤ ys.length → comPre xs ys = n
  | x :: xs, y :: ys, 0, _, h2, _, _ => by
    have := h2 x y rfl rfl
    unfold comPre
    rw [if_neg this]
  | x :: xs, y :: ys, n + 1, h1, h2, h3, h4 => by
    obtain ⟨z, a, b⟩ := h1 0 (by omega)
    simp at a b
    unfold comPre
    rw [if_pos (by rw [a, b])]
    congr 1
    refine comPre_of (fun i hi => ?_) (fun u v hu hv => ?_) (by simpa using h3) (by simpa using h4)
    · obtain ⟨z, a, b⟩ := h1 (i + 1) (by omega)
      exact ⟨z, by simpa using a, by simpa using b⟩
    · exact h2 u v (by simpa using hu) (by simpa using hv)
  | [], _, n, _, _, h3, _ => by
    simp at h3
    simp [comPre, h3]
  | _ :: _, [], n, _, _, _, h4 => by
    simp at h4
    simp [comPre, h4]
theorem rev_ints (xs : List Int) : (iV xs).reverse = iV xs.reverse := by
  show (xs.map V.int).reverse = xs.reverse.map V.int
  rw [List.map_reverse]
end Wc

/-! first words of lines, and the wraps from them. -/
namespace Wc
open PySem PySem.Spec PyProof.Rows L2
theorem lineGo_firsts (w : Int) (r : List Int) : ∀ (k : Nat) (c : Int), (lineGo w c r).length = (firstsGo w k c r).length + 1 := by
  induction r with
  | nil => intro k c; simp [lineGo, firstsGo]
  | cons n r ih =>
    intro k c
    unfold lineGo firstsGo
    split
    · exact ih (k + 1) _
    · rw [List.length_cons, List.length_cons, ih (k + 1) n]
theorem wrap_firsts_len {ns : List Int} {w : Int} {k : Nat} (h : k < ns.length) : (lawWrap (ns.drop k) w).length = (firstsOf ns w k).length := by
  obtain ⟨z, hz⟩ : ∃ z, ns[k]? = some z := ⟨_, List.getElem?_eq_getElem h⟩
  have hd := drop_get hz
  unfold firstsOf
  rw [hd, lawWrap_cons]
  simp only [List.length_cons]
  exact lineGo_firsts w _ (k + 1) z
theorem lineGo_drop (ns : List Int) (w : Int) : ∀ (r : List Int) (k : Nat) (c : Int) (j : Nat) (x : Int), r = ns.drop k → (firstsGo w k c r)[j]? = some x → (lineGo w c r).drop (j + 1) = lawWrap (ns.drop x.toNat) w := by
  intro r
  induction r with
  | nil =>
    intro k c j x _ h
    simp [firstsGo] at h
  | cons n r ih =>
    intro k c j x hr h
    have hr2 : r = ns.drop (k + 1) := by
      have : (n :: r).drop 1 = (ns.drop k).drop 1 := by rw [hr]
      rw [List.drop_drop] at this
      exact this
    unfold lineGo
    unfold firstsGo at h
    by_cases f : c + 1 + n ≤ w
    · rw [if_pos f] at h ⊢
      exact ih (k + 1) _ j x hr2 h
    · rw [if_neg f] at h ⊢
      cases j with
      | zero =>
        simp at h
        rw [← h, Int.toNat_natCast, ← hr, lawWrap_cons]
        rfl
      | succ j =>
        rw [List.getElem?_cons_succ] at h
        rw [List.drop_succ_cons]
        exact ih (k + 1) n j x hr2 h
/-- from a line's first word on, the wrap is the rest of the wrap -/
theorem wrap_from_first {ns : List Int} {w : Int} {k j : Nat} {x : Int} (h : (firstsOf ns w k)[j]? = some x) : (lawWrap (ns.drop k) w).drop j = lawWrap (ns.drop x.toNat) w := by
  unfold firstsOf at h
  cases e : ns.drop k with
  | nil =>
    rw [e] at h
    simp at h
  | cons n r =>
    rw [e] at h
    cases j with
    | zero =>
      simp at h
      rw [← h, Int.toNat_natCast, e]
      rfl
    | succ j =>
      have hr : r = ns.drop (k + 1) := by
        have : (n :: r).drop 1 = (ns.drop k).drop 1 := by rw [e]
        rw [List.drop_drop] at this
        exact this
      rw [List.getElem?_cons_succ] at h
      rw [lawWrap_cons]
      exact lineGo_drop ns w r (k + 1) n j x hr h
/-- words and the spaces behind them, ahead of word i -/
def preW (ns : List Int) (i : Nat) : Int := (ns.take i).sum + ((ns.take i).length : Int)
theorem preW_succ {ns : List Int} {i : Nat} {z : Int} (h : ns[i]? = some z) : preW ns (i + 1) = preW ns i + z + 1 := by
  unfold preW
  rw [take_succ_get h, List.sum_append, List.length_append]
  simp
  omega
theorem preW_mono {ns : List Int} (h : ∀ n ∈ ns, 1 ≤ n) {i j : Nat} (hij : i ≤ j) : preW ns i ≤ preW ns j := by
  induction j with
  | zero =>
    have : i = 0 := by omega
    rw [this]
    exact Int.le_refl _
  | succ j ih =>
    rcases (by omega : i = j + 1 ∨ i ≤ j) with rfl | hle
    · exact Int.le_refl _
    · have h1 := ih hle
      cases e : ns[j]? with
      | none =>
        unfold preW at h1 ⊢
        rw [List.take_of_length_le (show ns.length ≤ j + 1 by rw [List.getElem?_eq_none_iff] at e; omega)]
        rw [List.take_of_length_le (show ns.length ≤ j by rw [List.getElem?_eq_none_iff] at e; omega)] at h1
        exact h1
      | some z =>
        have := h z (List.mem_of_getElem? e)
        rw [preW_succ e]
        omega
/-- lines that start at these words, one behind the other -/
def RowsOk (ns : List Int) (w : Int) : Nat → List Int → Prop
  | _, [] => True
  | b, e :: es => ∃ m : Nat, e = (m : Int) ∧ b < m ∧ (m = b + 1 ∨ preW ns m - preW ns b - 1 ≤ w) ∧ w < preW ns (m + 1) - preW ns b - 1 ∧ RowsOk ns w m es
theorem rows_go (ns : List Int) (w : Int) : ∀ (r : List Int) (k b : Nat) (c : Int), r = ns.drop k → c = preW ns k - preW ns b - 1 → b < k → (k = b + 1 ∨ c ≤ w) → RowsOk ns w b (firstsGo w k c r) := by
  intro r
  induction r with
  | nil =>
    intro k b c _ _ _ _
    exact trivial
  | cons n r ih =>
    intro k b c hr hc hb hor
    have hr2 : r = ns.drop (k + 1) := by
      have : (n :: r).drop 1 = (ns.drop k).drop 1 := by rw [hr]
      rw [List.drop_drop] at this
      exact this
    have hn : ns[k]? = some n := by
      have : (n :: r)[0]? = (ns.drop k)[0]? := by rw [hr]
      rw [List.getElem?_drop] at this
      simpa using this.symm
    have hp := preW_succ hn
    unfold firstsGo
    by_cases f : c + 1 + n ≤ w
    · rw [if_pos f]
      exact ih (k + 1) b _ hr2 (by omega) (by omega) (.inr f)
    · rw [if_neg f]
      refine ⟨k, rfl, hb, ?_, by omega, ih (k + 1) k n hr2 (by omega) (by omega) (.inl rfl)⟩
      rcases hor with h | h
      · exact .inl h
      · exact .inr (by omega)
theorem rows_ok {ns : List Int} {w : Int} {k : Nat} (h : k < ns.length) : ∃ es, firstsOf ns w k = (k : Int) :: es ∧ RowsOk ns w k es := by
  obtain ⟨z, hz⟩ : ∃ z, ns[k]? = some z := ⟨_, List.getElem?_eq_getElem h⟩
  have hd := drop_get hz
  have hp := preW_succ hz
  unfold firstsOf
  rw [hd]
  exact ⟨_, rfl, rows_go ns w _ (k + 1) k z rfl (by omega) (by omega) (.inl rfl)⟩
/-- two starts of lines: what lies between does not fit -/
theorem rows_apart {ns : List Int} {w : Int} (hp : ∀ n ∈ ns, 1 ≤ n) : ∀ {es : List Int} {b : Nat}, RowsOk ns w b es → ∀ x ∈ es, ∃ m : Nat, x = (m : Int) ∧ b < m ∧ w < preW ns (m + 1) - preW ns b - 1
  | e :: es, b, ⟨m, he, hb, _, hw, hr⟩, x, hx => by
    rcases List.mem_cons.mp hx with rfl | hx
    · exact ⟨m, he, hb, hw⟩
    · obtain ⟨m', e', hb', _⟩ := rows_apart hp hr x hx
      refine ⟨m', e', by omega, ?_⟩
      have := preW_mono hp (show m + 1 ≤ m' + 1 by omega)
      omega
theorem rows_two {ns : List Int} {w : Int} (hp : ∀ n ∈ ns, 1 ≤ n) : ∀ {es : List Int} {b : Nat}, RowsOk ns w b es → ∀ x ∈ (b : Int) :: es, ∀ y ∈ (b : Int) :: es, x < y → ∃ m m' : Nat, x = (m : Int) ∧ y = (m' : Int) ∧ w < preW ns (m' + 1) - preW ns m - 1
  | [], b, _, x, hx, y, hy, h => by
    rw [List.mem_singleton.mp hx, List.mem_singleton.mp hy] at h
    omega
  | e :: es, b, hr, x, hx, y, hy, h => by
    obtain ⟨m, he, hb, h4, hw, hr2⟩ := id hr
    rcases List.mem_cons.mp hx with rfl | hx
    · rcases List.mem_cons.mp hy with rfl | hy
      · omega
      · obtain ⟨m', e', _, h2⟩ := rows_apart hp hr y hy
        exact ⟨b, m', rfl, e', h2⟩
    · rcases List.mem_cons.mp hy with rfl | hy
      · obtain ⟨m', e', hb', _⟩ := rows_apart hp hr x hx
        omega
      · rw [he] at hx hy
        exact rows_two hp hr2 x hx y hy h
theorem rows_adj {ns : List Int} {w : Int} : ∀ {es : List Int} {b : Nat}, RowsOk ns w b es → ∀ (j : Nat) (x y : Int), ((b : Int) :: es)[j]? = some x → ((b : Int) :: es)[j + 1]? = some y → ∃ m m' : Nat, x = (m : Int) ∧ y = (m' : Int) ∧ m < m' ∧ (m' = m + 1 ∨ preW ns m' - preW ns m - 1 ≤ w)
  | e :: es, b, ⟨m, he, hb, h4, _, hr⟩, 0, x, y, hx, hy => by
    simp at hx hy
    exact ⟨b, m, hx.symm, by rw [← hy, he], hb, h4⟩
  | e :: es, b, ⟨m, he, hb, h4, _, hr⟩, j + 1, x, y, hx, hy => by
    rw [List.getElem?_cons_succ] at hx hy
    rw [he] at hx hy
    exact rows_adj hr j x y hx hy
  | [], b, _, j, x, y, hx, hy => by
    simp at hy
/-- between two neighbouring starts of one wrap at most one start of another one -/
theorem rows_between {ns : List Int} {w : Int} (hp : ∀ n ∈ ns, 1 ≤ n) {i k j : Nat} (hi : i < ns.length) (hk : k < ns.length) {x y : Int} (hx : (firstsOf ns w i)[j]? = some x) (hy : (firstsOf ns w i)[j + 1]? = some y) : ((firstsOf ns w k).filter fun t => decide (x < t) && decide (t < y)).length ≤ 1 := by
  obtain ⟨es, e1, r1⟩ := rows_ok (w := w) hi
  obtain ⟨es2, e2, r2⟩ := rows_ok (w := w) hk
  rw [e1] at hx hy
  obtain ⟨m, m', rfl, rfl, hlt, hor⟩ := rows_adj r1 j x y hx hy
  have hasc := (firstsOf_asc ns w k).sublist (List.filter_sublist (p := fun t => decide ((m : Int) < t) && decide (t < (m' : Int))))
  generalize hf : ((firstsOf ns w k).filter fun t => decide ((m : Int) < t) && decide (t < (m' : Int))) = fl at hasc
  match fl, hasc, hf with
  | [], _, _ => exact Nat.zero_le _
  | [_], _, _ => exact Nat.le_refl _
  | p :: q :: r, hasc, hf =>
    have hpq : p < q := (List.pairwise_cons.mp hasc).1 q (List.mem_cons_self ..)
    have mp : p ∈ ((firstsOf ns w k).filter fun t => decide ((m : Int) < t) && decide (t < (m' : Int))) := by rw [hf]; exact List.mem_cons_self ..
    have mq : q ∈ ((firstsOf ns w k).filter fun t => decide ((m : Int) < t) && decide (t < (m' : Int))) := by rw [hf]; exact List.mem_cons_of_mem _ (List.mem_cons_self ..)
    rw [List.mem_filter] at mp mq
    obtain ⟨p1, p2⟩ := mp
    obtain ⟨q1, q2⟩ := mq
    simp only [Bool.and_eq_true, decide_eq_true_eq] at p2 q2
    rw [e2] at p1 q1
    obtain ⟨a, a', rfl, rfl, hw⟩ := rows_two hp r2 p p1 q q1 hpq
    have g1 := preW_mono hp (show m ≤ a by omega)
    have g2 := preW_mono hp (show a' + 1 ≤ m' by omega)
    exfalso
    rcases hor with h | h <;> omega
theorem asc_lt {xs : List Int} (h : xs.Pairwise (· < ·)) {m j : Nat} {z x : Int} (hm : m < j) (h1 : xs[m]? = some z) (h2 : xs[j]? = some x) : z < x := by
  obtain ⟨a1, a2⟩ := List.getElem?_eq_some_iff.mp h1
  obtain ⟨b1, b2⟩ := List.getElem?_eq_some_iff.mp h2
  rw [← a2, ← b2]
  exact (List.pairwise_iff_getElem.mp h) m j a1 b1 hm
theorem index_asc {xs : List Int} (h : xs.Pairwise (· < ·)) {j : Nat} {x : Int} (hx : xs[j]? = some x) : ∀ (m : Nat) (z' : V), m < j → (iV xs)[m]? = some z' → eqV z' (.int x) = false := by
  intro m z' hm hz
  obtain ⟨z, hz1, rfl⟩ := ints_get hz
  have := asc_lt h hm hz1 hx
  show (z == x) = false
  rw [beq_eq_false_iff_ne]
  omega
theorem meet_mem {ns : List Int} {w : Int} {i j : Nat} {k : Int} (h : meetOf ns w i j = some k) : k ∈ firstsOf ns w i ∧ k ∈ firstsOf ns w j := by
  unfold meetOf at h
  have := List.mem_of_mem_head? (by rw [h]; rfl)
  rw [List.mem_filter] at this
  exact ⟨this.1, of_decide_eq_true this.2⟩
theorem meet_none {ns : List Int} {w : Int} {i j : Nat} (h : meetOf ns w i j = none) : ((firstsOf ns w i).filter fun x => decide (x ∈ firstsOf ns w j)) = [] := by
  unfold meetOf at h
  exact List.head?_eq_none_iff.mp h
end Wc

/-! edits of texts, and what stays of the wraps. -/
namespace Wc
open PySem PySem.Spec PyProof.Rows L2
/-- lists of written numbers, of pairs of them -/
def tInts : List Int → TA
  | [] => tNil
  | x :: r => tCons (tC (.int x)) (tInts r)
def tPairs : List (Int × Int) → TA
  | [] => tNil
  | (x, y) :: r => tCons (tTup (tCons (tC (.int x)) (tCons (tC (.int y)) tNil))) (tPairs r)
theorem tInts_go {σ : L2.St} (ds : List Int) : ∀ {H : Hp} {Q : List V → Hp → Prop}, Q (iV ds) H → tInts ds σ H Q := by
  induction ds with
  | nil => exact fun h => h
  | cons d r ih => exact fun {H Q} h => ih (Q := fun xs H2 => Q (V.int d :: xs) H2) h
theorem tPairs_go {σ : L2.St} : ∀ {ps : List (Int × Int)} {H : Hp} {Q : List V → Hp → Prop}, (∀ (ts : List V) H', ts.length = ps.length → Same H H' → (∀ (i : Nat) (v : V), ts[i]? = some v → ∃ t x y, v = V.ref t ∧ (x, y) ∈ ps ∧ H' t = some (.tup [.int x, .int y])) → Q ts H') → tPairs ps σ H Q
  | [], H, Q, h => h [] H rfl (Same.refl _) (fun i v e => by simp at e)
  | (x, y) :: r, H, Q, h => by
    refine ⟨(by show 2 ≤ sizeLine; decide), fun t nt => tPairs_go (ps := r) fun ts H' hl s hs => ?_⟩
    refine h (.ref t :: ts) H' (by simp [hl]) ((same_new nt).trans s) fun i v e => ?_
    cases i with
    | zero =>
      simp at e
      exact ⟨t, x, y, e.symm, List.mem_cons_self .., s _ _ upd_same⟩
    | succ i =>
      obtain ⟨t', x', y', e1, e2, e3⟩ := hs i v (by simpa using e)
      exact ⟨t', x', y', e1, List.mem_cons_of_mem _ e2, e3⟩
theorem cutL_mid {α : Type} (xs : List α) (a b : Int) (h0 : 0 ≤ a) (h1 : 0 ≤ b) : cutL xs (some a) (some b) = (xs.drop a.toNat).take (b.toNat - a.toNat) := by
  have ea : a = (a.toNat : Int) := by omega
  have eb : b = (b.toNat : Int) := by omega
  unfold cutL
  rw [ea, eb, HT.sIx_nat, HT.sIx_nat]
  simp only [Int.toNat_natCast]
  by_cases ha : a.toNat ≤ xs.length
  · rw [Nat.min_eq_left ha]
    by_cases hb : b.toNat ≤ xs.length
    · rw [Nat.min_eq_left hb]
    · rw [Nat.min_eq_right (by omega)]
      rw [List.take_of_length_le (by rw [List.length_drop]; omega), List.take_of_length_le (by rw [List.length_drop]; omega)]
  · have em : min a.toNat xs.length = xs.length := Nat.min_eq_right (by omega)
    rw [em, List.drop_of_length_le (Nat.le_refl _), List.drop_of_length_le (show xs.length ≤ a.toNat by omega)]
    simp
theorem comPre_ge : ∀ {xs ys : List Int} {n : Nat}, xs.take n = ys.take n → n ≤ xs.length → n ≤ ys.length → n ≤ comPre xs ys
  | _, _, 0, _, _, _ => Nat.zero_le _
  | x :: xs, y :: ys, n + 1, h, h1, h2 => by
    rw [List.take_succ_cons, List.take_succ_cons] at h
    injection h with ha hb
    have := comPre_ge hb (by simpa using h1) (by simpa using h2)
    unfold comPre
    rw [if_pos ha]
    omega
  | [], _, n + 1, _, h1, _ => by simp at h1
  | _ :: _, [], n + 1, _, _, h2 => by simp at h2
theorem comPre_take : ∀ xs ys : List Int, xs.take (comPre xs ys) = ys.take (comPre xs ys)
  | x :: xs, y :: ys => by
    unfold comPre
    by_cases c : x = y
    · rw [if_pos c, List.take_succ_cons, List.take_succ_cons, comPre_take xs ys, c]
    · rw [if_neg c]
      rfl
  | [], _ => by simp [comPre]
  | _ :: _, [] => by simp [comPre]
theorem comPre_comm : ∀ xs ys : List Int, comPre xs ys = comPre ys xs
  | x :: xs, y :: ys => by
    unfold comPre
    by_cases c : x = y
    · rw [if_pos c, if_pos c.symm, comPre_comm xs ys]
    · rw [if_neg c, if_neg fun e => c e.symm]
  | [], [] => rfl
  | [], _ :: _ => rfl
  | _ :: _, [] => rfl
theorem rev_drop {xs ys : List Int} {n : Nat} (h : xs.reverse.take n = ys.reverse.take n) : xs.drop (xs.length - n) = ys.drop (ys.length - n) := by
  rw [List.take_reverse, List.take_reverse] at h
  exact List.reverse_inj.mp h
/-- what changed_lines gives -/
def chgOf (ns ms : List Int) (w : Int) : Int × Int := (comPre (lawWrap ns w) (lawWrap ms w), comPre ((lawWrap ns w).drop (comPre (lawWrap ns w) (lawWrap ms w))).reverse ((lawWrap ms w).drop (comPre (lawWrap ns w) (lawWrap ms w))).reverse)
theorem chgOf_comm (ns ms : List Int) (w : Int) : chgOf ns ms w = chgOf ms ns w := by
  unfold chgOf
  rw [comPre_comm (lawWrap ms w) (lawWrap ns w), comPre_comm ((lawWrap ms w).drop _).reverse]
theorem firstsGo_app (w : Int) (ys : List Int) : ∀ (xs : List Int) (k : Nat) (c : Int), ∃ c', firstsGo w k c (xs ++ ys) = firstsGo w k c xs ++ firstsGo w (k + xs.length) c' ys
  | [], k, c => ⟨c, rfl⟩
  | x :: xs, k, c => by
    rw [List.cons_append, firstsGo, firstsGo]
    by_cases f : c + 1 + x ≤ w
    · rw [if_pos f, if_pos f]
      obtain ⟨c', h⟩ := firstsGo_app w ys xs (k + 1) (c + 1 + x)
      refine ⟨c', ?_⟩
      rw [h, List.length_cons, show k + 1 + xs.length = k + (xs.length + 1) by omega]
    · rw [if_neg f, if_neg f]
      obtain ⟨c', h⟩ := firstsGo_app w ys xs (k + 1) x
      refine ⟨c', ?_⟩
      rw [h, List.length_cons, List.cons_append, show k + 1 + xs.length = k + (xs.length + 1) by omega]
theorem asc_le_one {xs : List Int} (h : xs.Pairwise (· < ·)) {a : Int} (ha : ∀ x ∈ xs, a ≤ x) : (xs.filter fun x => decide (x ≤ a)).length ≤ 1 := by
  have h2 := h.sublist (List.filter_sublist (p := fun x => decide (x ≤ a)))
  generalize hf : (xs.filter fun x => decide (x ≤ a)) = fl at h2
  match fl, h2, hf with
  | [], _, _ => exact Nat.zero_le _
  | [_], _, _ => exact Nat.le_refl _
  | p :: q :: r, h2, hf =>
    have hpq : p < q := (List.pairwise_cons.mp h2).1 q (List.mem_cons_self ..)
    have mp : p ∈ (xs.filter fun x => decide (x ≤ a)) := by rw [hf]; exact List.mem_cons_self ..
    have mq : q ∈ (xs.filter fun x => decide (x ≤ a)) := by rw [hf]; exact List.mem_cons_of_mem _ (List.mem_cons_self ..)
    rw [List.mem_filter] at mp mq
    have a1 := ha p mp.1
    have a2 := of_decide_eq_true mq.2
    omega
/-- the lines that start ahead of a word: at most one more than the wrap of the words ahead of it -/
theorem firsts_ahead {ns : List Int} {w : Int} {m : Nat} (h1 : 1 ≤ m) (h2 : m < ns.length) : ((firstsOf ns w 0).filter fun x => decide (x ≤ (m : Int))).length ≤ (lawWrap (ns.take m) w).length + 1 := by
  have hl : (ns.take m).length = m := by
    rw [List.length_take]
    omega
  have e0 := wrap_firsts_len (ns := ns.take m) (w := w) (k := 0) (by omega)
  rw [List.drop_zero] at e0
  rw [e0]
  have e : firstsOf ns w 0 = firstsOf (ns.take m ++ ns.drop m) w 0 := by rw [List.take_append_drop]
  rw [e]
  unfold firstsOf
  rw [List.drop_zero, List.drop_zero]
  cases hp : ns.take m with
  | nil =>
    rw [hp] at hl
    simp at hl
    omega
  | cons n r =>
    rw [List.cons_append]
    dsimp only
    obtain ⟨c', h⟩ := firstsGo_app w (ns.drop m) r (0 + 1) n
    rw [h, ← List.cons_append, List.filter_append, List.length_append]
    have a1 := List.length_filter_le (fun x => decide (x ≤ (m : Int))) (((0 : Nat) : Int) :: firstsGo w (0 + 1) n r)
    have hr : r.length + 1 = m := by
      rw [hp] at hl
      simpa using hl
    have a2 := firstsGo_asc w (ns.drop m) (0 + 1 + r.length) c'
    have a3 := asc_le_one a2.1 (a := (m : Int)) fun x hx => by
      have := a2.2 x hx
      omega
    omega
theorem edit_front {ns ms ys : List Int} {w : Int} {m : Nat} (h2 : m < ns.length) (hm : ms ≠ []) : ((firstsOf ns w 0).filter fun x => decide (x ≤ (m : Int))).length ≤ comPre (lawWrap ns w) (lawWrap (ns.take m ++ ms ++ ys) w) + 2 := by
  by_cases h1 : m = 0
  · have := asc_le_one (firstsOf_asc ns w 0) (a := (m : Int)) fun x hx => by
      have := firstsOf_rng x hx
      omega
    omega
  · have hl : (ns.take m).length = m := by
      rw [List.length_take]
      omega
    have a1 := firsts_ahead (w := w) (show 1 ≤ m by omega) h2
    have hne : ns ≠ [] := by
      rintro rfl
      simp at h2
    have p1 := lawWrap_prefix (ns := ns) w (m := m) (by omega) hne
    have hne2 : ns.take m ++ ms ++ ys ≠ [] := by
      simp [hm]
    have p2 := lawWrap_prefix (ns := ns.take m ++ ms ++ ys) w (m := m) (by omega) hne2
    have e2 : (ns.take m ++ ms ++ ys).take m = ns.take m := by
      rw [List.append_assoc, List.take_append_of_le_length (by omega), List.take_of_length_le (by omega)]
    rw [e2] at p2
    have l1 := congrArg List.length p1
    have l2 := congrArg List.length p2
    rw [List.length_dropLast, List.length_take] at l1 l2
    have := comPre_ge (n := (lawWrap (ns.take m) w).length - 1) (p1.symm.trans p2) (by omega) (by omega)
    omega
theorem asc_drop {xs : List Int} (h : xs.Pairwise (· < ·)) (m : Int) : ∃ d, (xs.filter fun x => decide (m ≤ x)) = xs.drop d := by
  induction xs with
  | nil => exact ⟨0, rfl⟩
  | cons x xs ih =>
    obtain ⟨h1, h2⟩ := List.pairwise_cons.mp h
    by_cases c : m ≤ x
    · refine ⟨0, ?_⟩
      rw [List.drop_zero]
      refine List.filter_eq_self.mpr fun y hy => ?_
      rcases List.mem_cons.mp hy with rfl | hy
      · exact decide_eq_true c
      · have := h1 y hy
        exact decide_eq_true (by omega)
    · obtain ⟨d, e⟩ := ih h2
      refine ⟨d + 1, ?_⟩
      rw [List.filter_cons_of_neg (by simp; omega), e]
      rfl
theorem txt_edit {ws ms : List Int} {a b : Nat} (h1 : Txt' ws) (h2 : Txt' ms) (h : total ws + 1 + total ms ≤ 600) (hab : a ≤ b) : Txt' (ws.take a ++ ms ++ ws.drop b) := by
  obtain ⟨a0, a1, a2⟩ := h1
  obtain ⟨b0, b1, b2⟩ := h2
  refine ⟨by simp [b0], fun n hn => ?_, ?_⟩
  · rcases List.mem_append.mp hn with hn | hn
    · rcases List.mem_append.mp hn with hn | hn
      · exact a1 n (List.take_subset _ _ hn)
      · exact b1 n hn
    · exact a1 n (List.drop_subset _ _ hn)
  · have e1 : ws.sum = (ws.take a).sum + (ws.drop a).sum := by rw [← List.sum_append, List.take_append_drop]
    have e2 : (ws.drop a).sum = ((ws.drop a).take (b - a)).sum + (ws.drop b).sum := by
      rw [← List.sum_append]
      congr 1
      have := (List.take_append_drop (b - a) (ws.drop a)).symm
      rw [List.drop_drop, show a + (b - a) = b by omega] at this
      exact this
    have e3 := total_nonneg_len ((ws.drop a).take (b - a)) fun n hn => a1 n (List.drop_subset _ _ (List.take_subset _ _ hn))
    have l1 : (ws.take a).length + (ws.drop b).length ≤ ws.length := by
      rw [List.length_take, List.length_drop]
      omega
    unfold total at h ⊢
    simp only [List.sum_append, List.length_append]
    omega
theorem edit_back {ws ms : List Int} {a c : Nat} (h1 : a + c ≤ ws.length) : (ws.take a ++ ms ++ ws.drop (a + c)).take a ++ (ws.drop a).take c ++ (ws.take a ++ ms ++ ws.drop (a + c)).drop (a + ms.length) = ws := by
  have hl : (ws.take a).length = a := by
    rw [List.length_take]
    omega
  have e1 : (ws.take a ++ ms ++ ws.drop (a + c)).take a = ws.take a := by
    rw [List.append_assoc, List.take_append_of_le_length (by omega), List.take_of_length_le (by omega)]
  have e2 : (ws.take a ++ ms ++ ws.drop (a + c)).drop (a + ms.length) = ws.drop (a + c) := by
    rw [List.drop_append_of_le_length (by rw [List.length_append, hl]; omega)]
    rw [List.drop_of_length_le (by rw [List.length_append, hl]; omega), List.nil_append]
  rw [e1, e2, List.append_assoc]
  conv => rhs; rw [← List.take_append_drop a ws]
  congr 1
  conv => rhs; rw [← List.take_append_drop c (ws.drop a)]
  rw [List.drop_drop]
end Wc

namespace Wc
open PySem PySem.Spec PyProof.Rows L2
/-! ### the text -/
def top (i : Nat) : Stmt := PySem.Challenge.pw_wrapclues_k50_whole_meetings_and_edits.main.body.getD i (.Pass ⟨0, 0, 0, 0⟩)
abbrev FnP (K : PySem.W.Frag) (x : Str) (st : Stmt) (dvs : List V) (f : Addr) (fd : FuncData) : Prop := FunD K x x (defArgs st) (defBody st) (defScope st) dvs [] f fd
structure Wd (K : PySem.W.Frag) (mg : Str → Option Value) : Prop where
  n_all : mg "all" = none
  n_bool : mg "bool" = none
  n_int : mg "int" = none
  n_isinstance : mg "isinstance" = none
  n_len : mg "len" = none
  n_list : mg "list" = none
  n_max : mg "max" = none
  n_min : mg "min" = none
  n_range : mg "range" = none
  n_sum : mg "sum" = none
  n_zip : mg "zip" = none
  c_MAX_CHARACTERS : ∃ t, mg "MAX_CHARACTERS" = some (.int 600 t)
  c_MAX_WIDTH : ∃ t, mg "MAX_WIDTH" = some (.int 1000 t)
  x_InvalidIndex : ExcF K mg "InvalidIndex"
  x_InvalidLengths : ExcF K mg "InvalidLengths"
  x_InvalidNumber : ExcF K mg "InvalidNumber"
  x_InvalidText : ExcF K mg "InvalidText"
  x_InvalidWidth : ExcF K mg "InvalidWidth"
theorem sc_is_integer : FnScope ["value", "low", "high"] ["value", "low", "high"] (defScope (top 10)) := ⟨rfl, rfl, rfl, by decide +kernel, rfl, by decide +kernel, by decide +kernel⟩
theorem sc_is_width : FnScope ["value"] ["value"] (defScope (top 11)) := ⟨rfl, rfl, rfl, by decide +kernel, rfl, by decide +kernel, by decide +kernel⟩
theorem sc_total_of : FnScope ["lengths"] ["lengths"] (defScope (top 12)) := ⟨rfl, rfl, rfl, by decide +kernel, rfl, by decide +kernel, by decide +kernel⟩
theorem sc_are_lengths : FnScope ["value", "length"] ["value"] (defScope (top 13)) := ⟨rfl, rfl, rfl, by decide +kernel, rfl, by decide +kernel, by decide +kernel⟩
theorem sc_is_text : FnScope ["value"] ["value"] (defScope (top 14)) := ⟨rfl, rfl, rfl, by decide +kernel, rfl, by decide +kernel, by decide +kernel⟩
theorem sc_require_text : FnScope ["text"] ["text"] (defScope (top 15)) := ⟨rfl, rfl, rfl, by decide +kernel, rfl, by decide +kernel, by decide +kernel⟩
theorem sc_require_width : FnScope ["width"] ["width"] (defScope (top 16)) := ⟨rfl, rfl, rfl, by decide +kernel, rfl, by decide +kernel, by decide +kernel⟩
theorem sc_ends_of : FnScope ["lengths", "found", "position", "length"] ["lengths"] (defScope (top 17)) := ⟨rfl, rfl, rfl, by decide +kernel, rfl, by decide +kernel, by decide +kernel⟩
theorem sc_starts_of : FnScope ["ends", "end"] ["ends"] (defScope (top 18)) := ⟨rfl, rfl, rfl, by decide +kernel, rfl, by decide +kernel, by decide +kernel⟩
theorem sc_lengths_of : FnScope ["ends", "start", "end"] ["ends"] (defScope (top 19)) := ⟨rfl, rfl, rfl, by decide +kernel, rfl, by decide +kernel, by decide +kernel⟩
theorem sc_wrapped_ends : FnScope ["stops", "width", "found", "start", "stop", "following"] ["stops", "width"] (defScope (top 20)) := ⟨rfl, rfl, rfl, by decide +kernel, rfl, by decide +kernel, by decide +kernel⟩
theorem sc_wrap_of : FnScope ["text", "width"] ["text", "width"] (defScope (top 21)) := ⟨rfl, rfl, rfl, by decide +kernel, rfl, by decide +kernel, by decide +kernel⟩
theorem sc_wrap_text : FnScope ["text", "width"] ["text", "width"] (defScope (top 22)) := ⟨rfl, rfl, rfl, by decide +kernel, rfl, by decide +kernel, by decide +kernel⟩
theorem sc_require_word : FnScope ["text", "word"] ["text", "word"] (defScope (top 24)) := ⟨rfl, rfl, rfl, by decide +kernel, rfl, by decide +kernel, by decide +kernel⟩
theorem sc_wrap_from : FnScope ["text", "width", "word"] ["text", "width", "word"] (defScope (top 25)) := ⟨rfl, rfl, rfl, by decide +kernel, rfl, by decide +kernel, by decide +kernel⟩
theorem sc_first_words : FnScope ["text", "width", "word", "found", "length"] ["text", "width", "word"] (defScope (top 26)) := ⟨rfl, rfl, rfl, by decide +kernel, rfl, by decide +kernel, by decide +kernel⟩
theorem sc_meeting_word : FnScope ["text", "width", "first", "second", "others", "common", "word"] ["text", "width", "first", "second"] (defScope (top 27)) := ⟨rfl, rfl, rfl, by decide +kernel, rfl, by decide +kernel, by decide +kernel⟩
theorem sc_replace_words : FnScope ["text", "first", "count", "words"] ["text", "first", "count", "words"] (defScope (top 28)) := ⟨rfl, rfl, rfl, by decide +kernel, rfl, by decide +kernel, by decide +kernel⟩
theorem sc_common_count : FnScope ["one", "other", "count"] ["one", "other"] (defScope (top 29)) := ⟨rfl, rfl, rfl, by decide +kernel, rfl, by decide +kernel, by decide +kernel⟩
theorem sc_changed_lines : FnScope ["text", "other", "width", "one", "two", "begun"] ["text", "other", "width"] (defScope (top 30)) := ⟨rfl, rfl, rfl, by decide +kernel, rfl, by decide +kernel, by decide +kernel⟩
theorem sc__law_deck : FnScope ["script", "pools", "k", "cell"] ["script"] (defScope (top 32)) := ⟨rfl, rfl, rfl, by decide +kernel, rfl, by decide +kernel, by decide +kernel⟩
theorem sc__law_draw : FnScope ["deck", "many", "pool", "found", "mixed"] ["deck", "many"] (defScope (top 33)) := ⟨rfl, rfl, rfl, by decide +kernel, rfl, by decide +kernel, by decide +kernel⟩
theorem sc__law_span : FnScope ["sizes"] ["sizes"] (defScope (top 34)) := ⟨rfl, rfl, rfl, by decide +kernel, rfl, by decide +kernel, by decide +kernel⟩
theorem sc__law_plan : FnScope ["deck", "most", "longest", "found", "turn", "more"] ["deck", "most", "longest"] (defScope (top 35)) := ⟨rfl, rfl, rfl, by decide +kernel, rfl, by decide +kernel, by decide +kernel⟩
theorem sc__law_begins : FnScope ["plan", "wide", "at", "found", "here", "k"] ["plan", "wide", "at"] (defScope (top 36)) := ⟨rfl, rfl, rfl, by decide +kernel, rfl, by decide +kernel, by decide +kernel⟩
theorem sc__law_pair_right : FnScope ["plan", "wide", "at", "to", "one", "two", "meet", "first_wrap", "second_wrap", "rest", "rows", "others", "late", "begin", "end", "k"] ["plan", "wide", "at", "to"] (defScope (top 37)) := ⟨rfl, rfl, rfl, by decide +kernel, rfl, by decide +kernel, by decide +kernel⟩
theorem sc__law_edit_right : FnScope ["deck", "plan", "wide", "at", "many", "more", "other_plan", "one", "two", "front", "behind", "begins", "k"] ["deck", "plan", "wide"] (defScope (top 38)) := ⟨rfl, rfl, rfl, by decide +kernel, rfl, by decide +kernel, by decide +kernel⟩
theorem sc_law : FnScope ["script", "deck", "turn", "most", "longest", "plan", "wide", "begins", "whole", "k", "step"] ["script"] (defScope (top 39)) := ⟨rfl, rfl, rfl, by decide +kernel, rfl, by decide +kernel, by decide +kernel⟩
/-! ### promises -/
def isIntV (v : V) (lo : Int) (hi : V) : Bool := match v with
  | .int i => decide (lo ≤ i) && (match hi with
    | .int h => decide (i ≤ h)
    | _ => true)
  | _ => false
structure sp_is_integer (K : PySem.W.Frag) (vs : List V) (H : Hp) (Q : VK) (E : XK) : Prop where
  h : ∃ v o lo hi, vs = [v, .int lo, hi] ∧ Av K H v o ∧ (hi = .non ∨ ∃ h, hi = .int h) ∧ Q (.bl (isIntV v lo hi)) H

def isWidth (v : V) : Bool := isIntV v 1 (.int 1000)
structure sp_is_width (K : PySem.W.Frag) (vs : List V) (H : Hp) (Q : VK) (E : XK) : Prop where
  h : ∃ v o, vs = [v] ∧ Av K H v o ∧ Q (.bl (isWidth v)) H
theorem isWidth_ok {w : Int} (h1 : 1 ≤ w) (h2 : w ≤ 1000) : isWidth (.int w) = true := by
  simp [isWidth, isIntV, h1, h2]

structure sp_total_of (K : PySem.W.Frag) (vs : List V) (H : Hp) (Q : VK) (E : XK) : Prop where
  h : ∃ a ns, vs = [.ref a] ∧ SqL K H a (iV ns) ∧ Q (.int (total ns)) H

theorem shaped_item {d : PyData} {ds : List PyData} (h : SeqAt.shaped (.list ds) = true) (hm : d ∈ ds) : SeqAt.shaped d = true := by
  unfold SeqAt.shaped at h ⊢
  rw [Bool.and_eq_true] at h ⊢
  obtain ⟨h1, h2⟩ := h
  have h2' := of_decide_eq_true h2
  rw [PyData.depth] at h2'
  rw [PyData.canLay0] at h1
  constructor
  · clear h2 h2'
    induction ds with
    | nil => cases hm
    | cons e ds ih =>
      have h1' : e.canLay0 = true ∧ PyData.canLayAll0 ds = true := by simpa [PyData.canLayAll0] using h1
      rcases List.mem_cons.mp hm with rfl | hm
      · exact h1'.1
      · exact ih hm h1'.2
  · refine decide_eq_true ?_
    have : d.depth ≤ PyData.depthAll ds := by
      clear h1 h2 h2'
      induction ds with
      | nil => cases hm
      | cons e ds ih =>
        rw [PyData.depthAll]
        rcases List.mem_cons.mp hm with rfl | hm
        · exact Nat.le_max_left _ _
        · exact Nat.le_trans (ih hm) (Nat.le_max_right _ _)
    omega
structure sp_are_lengths (K : PySem.W.Frag) (vs : List V) (H : Hp) (Q : VK) (E : XK) : Prop where
  h : ∃ v o, vs = [v] ∧ Av K H v o ∧ (∀ ds, o = some (.list ds) → ds.length ≤ sizeLine) ∧ ∀ H', Same H H' → Q (.bl (areLengths o)) H'

def sp_is_text (K : PySem.W.Frag) : Sp := sp_are_lengths K

structure sp_require_text (K : PySem.W.Frag) (vs : List V) (H : Hp) (Q : VK) (E : XK) : Prop where
  h : ∃ v o, vs = [v] ∧ Av K H v o ∧ (∀ ds, o = some (.list ds) → ds.length ≤ sizeLine) ∧ (areLengths o = true → ∀ H', Same H H' → Q .non H') ∧ (areLengths o = false → ∀ H', Same H H' → E (xc K "InvalidText") none H')

structure sp_require_width (K : PySem.W.Frag) (vs : List V) (H : Hp) (Q : VK) (E : XK) : Prop where
  h : ∃ v o, vs = [v] ∧ Av K H v o ∧ (isWidth v = true → Q .non H) ∧ (isWidth v = false → E (xc K "InvalidWidth") none H)

structure sp_ends_of (K : PySem.W.Frag) (vs : List V) (H : Hp) (Q : VK) (E : XK) : Prop where
  h : ∃ a ns, vs = [.ref a] ∧ SqL K H a (iV ns) ∧ ns.length ≤ sizeLine ∧ ∀ p H', H p = none → Same H H' → IL H' p (endsOf ns) → Q (.ref p) H'

structure sp_starts_of (K : PySem.W.Frag) (vs : List V) (H : Hp) (Q : VK) (E : XK) : Prop where
  h : ∃ a es, vs = [.ref a] ∧ SqL K H a (iV es) ∧ es.length ≤ 100000 ∧ ∀ p H', H p = none → Same H H' → IL H' p (startsOf es) → Q (.ref p) H'

theorem lenFrom_get : ∀ (es : List Int) (p : Int) (i : Nat) (s e : Int), (p :: es.dropLast.map (· + 1))[i]? = some s → es[i]? = some e → (lenFrom p es)[i]? = some (e - s)
  | [], _, _, _, _, _, h => by simp at h
  | e :: r, p, 0, s, e', h1, h2 => by
    simp at h1 h2
    subst h1 h2
    rfl
  | e :: r, p, i + 1, s, e', h1, h2 => by
    have h2' : r[i]? = some e' := by simpa using h2
    have hr : r ≠ [] := by
      rintro rfl
      simp at h2'
    show (lenFrom (e + 1) r)[i]? = _
    refine lenFrom_get r (e + 1) i s e' ?_ h2'
    obtain ⟨x, r', rfl⟩ := List.exists_cons_of_ne_nil hr
    simpa using h1
structure sp_lengths_of (K : PySem.W.Frag) (vs : List V) (H : Hp) (Q : VK) (E : XK) : Prop where
  h : ∃ a es, vs = [.ref a] ∧ SqL K H a (iV es) ∧ es ≠ [] ∧ es.length ≤ 100000 ∧ ∀ p H', H p = none → Same H H' → IL H' p (lengthsOf es) → Q (.ref p) H'

theorem drop_end {α : Type} {xs : List α} (h : xs ≠ []) : xs.drop (xs.length - 1) = [xs.getLast h] := by
  have e := List.dropLast_concat_getLast h
  have e2 : xs.length - 1 = xs.dropLast.length := by rw [List.length_dropLast]
  rw [e2]
  conv => lhs; rw [← e]
  simp
theorem wrapGo_drop (w start s t : Int) (stops : List Int) (i : Nat) (hs : stops[i]? = some s) (ht : stops[i + 1]? = some t) : wrapGo w start (stops.drop i) = if t > start + w then s :: wrapGo w (s + 1) (stops.drop (i + 1)) else wrapGo w start (stops.drop (i + 1)) := by
  have h1 : i < stops.length := (List.getElem?_eq_some_iff.mp hs).1
  have h2 : i + 1 < stops.length := (List.getElem?_eq_some_iff.mp ht).1
  have e2 : stops.drop (i + 1) = t :: stops.drop (i + 2) := by
    rw [List.drop_eq_getElem_cons h2]
    rw [List.getElem?_eq_getElem h2] at ht
    rw [Option.some.inj ht]
  have e1 : stops.drop i = s :: stops.drop (i + 1) := by
    rw [List.drop_eq_getElem_cons h1]
    rw [List.getElem?_eq_getElem h1] at hs
    rw [Option.some.inj hs]
  rw [e1, e2]
  rfl
structure sp_wrapped_ends (K : PySem.W.Frag) (vs : List V) (H : Hp) (Q : VK) (E : XK) : Prop where
  h : ∃ a stops w, vs = [.ref a, .int w] ∧ SqL K H a (iV stops) ∧ stops ≠ [] ∧ stops.length ≤ 100000 ∧ ∀ p H', H p = none → Same H H' → IL H' p (wrappedEnds stops w) → Q (.ref p) H'

structure sp_wrap_of (K : PySem.W.Frag) (vs : List V) (H : Hp) (Q : VK) (E : XK) : Prop where
  h : ∃ a ns w, vs = [.ref a, .int w] ∧ SqL K H a (iV ns) ∧ ns ≠ [] ∧ ns.length ≤ 100000 ∧ ∀ p H', H p = none → Same H H' → IL H' p (lawWrap ns w) → Q (.ref p) H'

structure sp_wrap_text (K : PySem.W.Frag) (vs : List V) (H : Hp) (Q : VK) (E : XK) : Prop where
  h : ∃ v o wv wo, vs = [v, wv] ∧ Av K H v o ∧ (∀ ds, o = some (.list ds) → ds.length ≤ sizeLine) ∧ (∀ H', Same H H' → Av K H' wv wo) ∧
  (areLengths o = true → isWidth wv = true → ∃ a ns w, v = .ref a ∧ wv = .int w ∧ SqL K H a (iV ns) ∧ ns ≠ [] ∧ ns.length ≤ 100000 ∧ ∀ p H', H p = none → Same H H' → IL H' p (lawWrap ns w) → Q (.ref p) H') ∧
  (areLengths o = false → ∀ H', Same H H' → E (xc K "InvalidText") none H') ∧ (areLengths o = true → isWidth wv = false → ∀ H', Same H H' → E (xc K "InvalidWidth") none H')
theorem wrap_text_ok {K : PySem.W.Frag} {H : Hp} {Q : VK} {E : XK} {w : Addr} {ws : List Int} {wd : Int} (hS : SqL K H w (iV ws)) (ht : Txt' ws) (h1 : 1 ≤ wd) (h2 : wd ≤ 1000) (q : ∀ p H', H p = none → Same H H' → IL H' p (lawWrap ws wd) → Q (.ref p) H') : sp_wrap_text K [.ref w, .int wd] H Q E := by
  have hl := ht.len
  refine ⟨.ref w, _, .int wd, some (.int wd), rfl, av_ints hS, lenLine (by omega), (fun H' _ => .d (.int _) rfl), fun _ _ => ⟨w, ws, wd, rfl, rfl, hS, ht.1, by omega, q⟩, fun c => ?_, fun _ c => ?_⟩
  · rw [ht.yes] at c
    cases c
  · rw [isWidth_ok h1 h2] at c
    cases c

def isWord (v : V) (n : Nat) : Bool := isIntV v 0 (.int ((n : Int) - 1))
structure sp_require_word (K : PySem.W.Frag) (vs : List V) (H : Hp) (Q : VK) (E : XK) : Prop where
  h : ∃ a ns v o, vs = [.ref a, v] ∧ SqL K H a (iV ns) ∧ Av K H v o ∧ (isWord v ns.length = true → Q .non H) ∧ (isWord v ns.length = false → E (xc K "InvalidIndex") none H)

structure sp_wrap_from (K : PySem.W.Frag) (vs : List V) (H : Hp) (Q : VK) (E : XK) : Prop where
  h : ∃ v o wv wo xv xo, vs = [v, wv, xv] ∧ Av K H v o ∧ (∀ ds, o = some (.list ds) → ds.length ≤ sizeLine) ∧ (∀ H', Same H H' → Av K H' wv wo) ∧ (∀ H', Same H H' → Av K H' xv xo) ∧
  (areLengths o = true → isWidth wv = true → ∃ a ns w, v = .ref a ∧ wv = .int w ∧ SqL K H a (iV ns) ∧ Txt' ns ∧
    (isWord xv ns.length = true → ∃ i : Int, xv = .int i ∧ ∀ p H', H p = none → Same H H' → IL H' p (lawWrap (ns.drop i.toNat) w) → Q (.ref p) H') ∧ (isWord xv ns.length = false → ∀ H', Same H H' → E (xc K "InvalidIndex") none H')) ∧
  (areLengths o = false → ∀ H', Same H H' → E (xc K "InvalidText") none H') ∧ (areLengths o = true → isWidth wv = false → ∀ H', Same H H' → E (xc K "InvalidWidth") none H')
theorem wrap_from_ok {K : PySem.W.Frag} {H : Hp} {Q : VK} {E : XK} {w : Addr} {ws : List Int} {wd i : Int} (hS : SqL K H w (iV ws)) (ht : Txt' ws) (h1 : 1 ≤ wd) (h2 : wd ≤ 1000) (i1 : 0 ≤ i) (i2 : i < ws.length) (q : ∀ p H', H p = none → Same H H' → IL H' p (lawWrap (ws.drop i.toNat) wd) → Q (.ref p) H') : sp_wrap_from K [.ref w, .int wd, .int i] H Q E := by
  have hl := ht.len
  have hw : isWord (.int i) ws.length = true := by
    simp only [isWord, isIntV, Bool.and_eq_true, decide_eq_true_eq]
    omega
  refine ⟨.ref w, _, .int wd, some (.int wd), .int i, some (.int i), rfl, av_ints hS, lenLine (by omega), (fun H' _ => .d (.int _) rfl), (fun H' _ => .d (.int _) rfl), fun _ _ => ⟨w, ws, wd, rfl, rfl, hS, ht, fun _ => ⟨i, rfl, q⟩, fun c => ?_⟩, fun c => ?_, fun _ c => ?_⟩
  · rw [hw] at c
    cases c
  · rw [ht.yes] at c
    cases c
  · rw [isWidth_ok h1 h2] at c
    cases c

structure sp_first_words (K : PySem.W.Frag) (vs : List V) (H : Hp) (Q : VK) (E : XK) : Prop where
  h : ∃ a ns w k, vs = [.ref a, .int w, .int k] ∧ SqL K H a (iV ns) ∧ ns.length ≤ 100000 ∧ 0 ≤ k ∧ ∀ p H', H p = none → Same H H' → IL H' p (firstsOf ns w k.toNat) → Q (.ref p) H'

structure sp_meeting_word (K : PySem.W.Frag) (vs : List V) (H : Hp) (Q : VK) (E : XK) : Prop where
  h : ∃ v o wv wo xv xo yv yo, vs = [v, wv, xv, yv] ∧ Av K H v o ∧ (∀ ds, o = some (.list ds) → ds.length ≤ sizeLine) ∧ (∀ H', Same H H' → Av K H' wv wo) ∧ (∀ H', Same H H' → Av K H' xv xo) ∧ (∀ H', Same H H' → Av K H' yv yo) ∧
  (areLengths o = true → isWidth wv = true → ∃ a ns w, v = .ref a ∧ wv = .int w ∧ SqL K H a (iV ns) ∧ Txt' ns ∧
    (isWord xv ns.length = true → isWord yv ns.length = true → ∃ i j : Int, xv = .int i ∧ yv = .int j ∧ ∀ H', Same H H' → Q (optV (meetOf ns w i.toNat j.toNat)) H') ∧ ((isWord xv ns.length && isWord yv ns.length) = false → ∀ H', Same H H' → E (xc K "InvalidIndex") none H')) ∧
  (areLengths o = false → ∀ H', Same H H' → E (xc K "InvalidText") none H') ∧ (areLengths o = true → isWidth wv = false → ∀ H', Same H H' → E (xc K "InvalidWidth") none H')
theorem meeting_word_ok {K : PySem.W.Frag} {H : Hp} {Q : VK} {E : XK} {w : Addr} {ws : List Int} {wd i j : Int} (hS : SqL K H w (iV ws)) (ht : Txt' ws) (h1 : 1 ≤ wd) (h2 : wd ≤ 1000) (i1 : 0 ≤ i) (i2 : i < ws.length) (j1 : 0 ≤ j) (j2 : j < ws.length) (q : ∀ H', Same H H' → Q (optV (meetOf ws wd i.toNat j.toNat)) H') : sp_meeting_word K [.ref w, .int wd, .int i, .int j] H Q E := by
  have hl := ht.len
  have hw : ∀ i : Int, 0 ≤ i → i < ws.length → isWord (.int i) ws.length = true := by
    intro i a b
    simp only [isWord, isIntV, Bool.and_eq_true, decide_eq_true_eq]
    omega
  refine ⟨.ref w, _, .int wd, some (.int wd), .int i, some (.int i), .int j, some (.int j), rfl, av_ints hS, lenLine (by omega), (fun H' _ => .d (.int _) rfl), (fun H' _ => .d (.int _) rfl), (fun H' _ => .d (.int _) rfl), fun _ _ => ⟨w, ws, wd, rfl, rfl, hS, ht, fun _ _ => ⟨i, j, rfl, rfl, q⟩, fun c => ?_⟩, fun c => ?_, fun _ c => ?_⟩
  · rw [hw i i1 i2, hw j j1 j2] at c
    cases c
  · rw [ht.yes] at c
    cases c
  · rw [isWidth_ok h1 h2] at c
    cases c

structure sp_replace_words (K : PySem.W.Frag) (vs : List V) (H : Hp) (Q : VK) (E : XK) : Prop where
  h : ∃ v o fv fo cv co wv wo, vs = [v, fv, cv, wv] ∧ Av K H v o ∧ (∀ ds, o = some (.list ds) → ds.length ≤ sizeLine) ∧ (∀ H', Same H H' → Av K H' fv fo) ∧ (∀ H', Same H H' → Av K H' cv co) ∧ (∀ H', Same H H' → Av K H' wv wo) ∧
  (∀ ds, wo = some (.list ds) → ds.length ≤ 5000 ∧ ∃ b xs, wv = .ref b ∧ H b = some (.lst xs) ∧ ∀ H', Same H H' → DpAll K H' xs ds) ∧
  (areLengths o = true → ∃ a ns, v = .ref a ∧ SqL K H a (iV ns) ∧ Txt' ns ∧ (isIntV fv 0 (.int ns.length) = false → ∀ H', Same H H' → E (xc K "InvalidIndex") none H') ∧
    ∀ f, fv = .int f → isIntV fv 0 (.int ns.length) = true → (isIntV cv 0 (.int (ns.length - f)) = false → ∀ H', Same H H' → E (xc K "InvalidNumber") none H') ∧
      ∀ c, cv = .int c → isIntV cv 0 (.int (ns.length - f)) = true → (replOf ns f.toNat c.toNat wo = none → ∀ H', Same H H' → E (xc K "InvalidLengths") none H') ∧
        ∀ t, replOf ns f.toNat c.toNat wo = some t → ∀ p H', H p = none → Same H H' → IL H' p t → Q (.ref p) H') ∧
  (areLengths o = false → ∀ H', Same H H' → E (xc K "InvalidText") none H')
theorem replace_words_of {K : PySem.W.Frag} {H : Hp} {Q : VK} {E : XK} {w b : Addr} {ws ms : List Int} {f c : Int} (hS : SqL K H w (iV ws)) (ht : Txt' ws) (hb : IL H b ms) (hm : ms.length ≤ 5000) (f1 : 0 ≤ f) (f2 : f ≤ ws.length) (c1 : 0 ≤ c) (c2 : c ≤ ws.length - f)
    (q : Txt' (ws.take f.toNat ++ ms ++ ws.drop (f.toNat + c.toNat)) → ∀ p H', H p = none → Same H H' → IL H' p (ws.take f.toNat ++ ms ++ ws.drop (f.toNat + c.toNat)) → Q (.ref p) H')
    (qe : ¬ Txt' (ws.take f.toNat ++ ms ++ ws.drop (f.toNat + c.toNat)) → ∀ H', Same H H' → E (xc K "InvalidLengths") none H') : sp_replace_words K [.ref w, .int f, .int c, .ref b] H Q E := by
  have hl := ht.len
  have hf : isIntV (.int f) 0 (.int ws.length) = true := by
    simp only [isIntV, Bool.and_eq_true, decide_eq_true_eq]
    omega
  have hc : isIntV (.int c) 0 (.int (ws.length - f)) = true := by
    simp only [isIntV, Bool.and_eq_true, decide_eq_true_eq]
    omega
  obtain ⟨r1, r2⟩ := replOf_ints ws f.toNat c.toNat ms
  refine ⟨.ref w, _, .int f, some (.int f), .int c, some (.int c), .ref b, some (.list (ms.map .int)), rfl, av_ints hS, lenLine (by omega), (fun H' _ => .d (.int _) rfl), (fun H' _ => .d (.int _) rfl), (fun H' s => av_ints (hb.same s).seq), fun ds e => ?_, fun _ => ⟨w, ws, rfl, hS, ht, fun h => ?_, fun f' ef _ => ?_⟩, fun h => ?_⟩
  · injection e with e
    injection e with e
    subst e
    exact ⟨by rw [List.length_map]; exact hm, b, _, rfl, hb, fun H' _ => dpAll_ints ms⟩
  · rw [hf] at h
    cases h
  · injection ef with ef
    subst ef
    refine ⟨fun h => ?_, fun c' ec _ => ?_⟩
    · rw [hc] at h
      cases h
    · injection ec with ec
      subst ec
      refine ⟨fun h H' s => qe (fun g => ?_) H' s, fun t h p H' n s e => ?_⟩
      · rw [r1 g] at h
        cases h
      · by_cases g : Txt' (ws.take f.toNat ++ ms ++ ws.drop (f.toNat + c.toNat))
        · rw [r1 g] at h
          rw [← Option.some.inj h] at e
          exact q g p H' n s e
        · rw [r2 g] at h
          cases h
  · rw [ht.yes] at h
    cases h

structure sp_common_count (K : PySem.W.Frag) (vs : List V) (H : Hp) (Q : VK) (E : XK) : Prop where
  h : ∃ a b xs ys, vs = [.ref a, .ref b] ∧ SqL K H a (iV xs) ∧ SqL K H b (iV ys) ∧ Q (.int (comPre xs ys)) H

structure sp_changed_lines (K : PySem.W.Frag) (vs : List V) (H : Hp) (Q : VK) (E : XK) : Prop where
  h : ∃ v o v2 o2 wv wo, vs = [v, v2, wv] ∧ Av K H v o ∧ (∀ ds, o = some (.list ds) → ds.length ≤ sizeLine) ∧ (∀ H', Same H H' → Av K H' v2 o2) ∧ (∀ ds, o2 = some (.list ds) → ds.length ≤ sizeLine) ∧ (∀ H', Same H H' → Av K H' wv wo) ∧
  (areLengths o = true → areLengths o2 = true → isWidth wv = true → ∃ a ns b ms w, v = .ref a ∧ v2 = .ref b ∧ wv = .int w ∧ SqL K H a (iV ns) ∧ Txt' ns ∧ SqL K H b (iV ms) ∧ Txt' ms ∧
    ∀ t H', H t = none → Same H H' → H' t = some (.tup [.int (chgOf ns ms w).1, .int (chgOf ns ms w).2]) → Q (.ref t) H') ∧
  (areLengths o = false → ∀ H', Same H H' → E (xc K "InvalidText") none H') ∧ (areLengths o = true → areLengths o2 = false → ∀ H', Same H H' → E (xc K "InvalidText") none H') ∧ (areLengths o = true → areLengths o2 = true → isWidth wv = false → ∀ H', Same H H' → E (xc K "InvalidWidth") none H')
theorem changed_lines_ok {K : PySem.W.Frag} {H : Hp} {Q : VK} {E : XK} {w b : Addr} {ws ms : List Int} {wd : Int} (hS : SqL K H w (iV ws)) (ht : Txt' ws) (hB : SqL K H b (iV ms)) (hm : Txt' ms) (h1 : 1 ≤ wd) (h2 : wd ≤ 1000)
    (q : ∀ t H', H t = none → Same H H' → H' t = some (.tup [.int (chgOf ws ms wd).1, .int (chgOf ws ms wd).2]) → Q (.ref t) H') : sp_changed_lines K [.ref w, .ref b, .int wd] H Q E := by
  have hl := ht.len
  have hl2 := hm.len
  refine ⟨.ref w, _, .ref b, _, .int wd, some (.int wd), rfl, av_ints hS, lenLine (by omega), (fun H' s => av_ints (s.seq hB)), lenLine (by omega), (fun H' _ => .d (.int _) rfl), fun _ _ _ => ⟨w, ws, b, ms, wd, rfl, rfl, rfl, hS, ht, hB, hm, q⟩, fun c => ?_, fun _ c => ?_, fun _ _ c => ?_⟩
  · rw [ht.yes] at c
    cases c
  · rw [hm.yes] at c
    cases c
  · rw [isWidth_ok h1 h2] at c
    cases c

structure sp__law_deck (K : PySem.W.Frag) (vs : List V) (H : Hp) (Q : VK) (E : XK) : Prop where
  h : ∃ a ns, vs = [.ref a] ∧ SqL K H a (iV ns) ∧ ns.length ≤ 63 ∧ ∀ b qs H', (∀ x ∈ b :: qs, H x = none) → Same H H' → Deck H' b qs 0 → Q (.ref b) H'

structure sp__law_draw (K : PySem.W.Frag) (vs : List V) (H : Hp) (Q : VK) (E : XK) : Prop where
  h : ∃ a qs n many, vs = [.ref a, .int many] ∧ Deck H a qs n ∧ n ≤ 2 ^ 50 ∧ 1 ≤ many ∧ many < 2 ^ 29 ∧ ∀ r H', 0 ≤ r → r < many → Deck H' a qs (n + 1) → SameS (a :: qs) H H' → Q (.int r) H'
theorem draw_ints {K : PySem.W.Frag} {E : XK} {H : Hp} {Q : VK} {σ : L2.St} {j : Nat} {b : Addr} {qs : List Addr} {n : Nat} (ds : List Int) {c : Int} (hσ : σ[j]? = some (some (.ref b))) (hD : Deck H b qs n) (hn : n ≤ 2 ^ 40) (hc : (ds.length : Int) = c) (h1 : 1 ≤ ds.length) (h2 : ds.length ≤ 1000)
    (q : ∀ d H', d ∈ ds → Deck H' b qs (n + 1) → SameS (b :: qs) H H' → Q (.int d) H') : tOp (rIxL K) (tLst (tInts ds)) (tCall (sp__law_draw K) [] E (tCons (tVar j) (tCons (tC (.int c)) tNil))) σ H Q := by
  have hz : sizeLine = 16777216 := by decide
  have e40 : (2 : Nat) ^ 40 = 1099511627776 := by decide
  have e50 : (2 : Nat) ^ 50 = 1125899906842624 := by decide
  rw [e40] at hn
  refine tInts_go _ ⟨by rw [List.length_map]; omega, fun t nt => ⟨_, hσ, b, qs, n, c, rfl, hD.new nt, by omega, by omega, by omega, fun r H2 r0 r1 D2 s2 => ?_⟩⟩
  obtain ⟨d, hd⟩ : ∃ d, ds[r.toNat]? = some d := ⟨_, List.getElem?_eq_getElem (by omega)⟩
  exact ⟨t, _, _, _, rfl, rfl, .inl (.inl (s2.at (hD.fresh nt) upd_same)), atI_int (atI_nn r0 hd), q d H2 (List.mem_of_getElem? hd) D2 ((SameS.of (same_new nt)).trans s2)⟩
theorem draw_pairs {K : PySem.W.Frag} {E : XK} {H : Hp} {Q : VK} {σ : L2.St} {j : Nat} {b : Addr} {qs : List Addr} {n : Nat} (ps : List (Int × Int)) {c : Int} (hσ : σ[j]? = some (some (.ref b))) (hD : Deck H b qs n) (hn : n ≤ 2 ^ 40) (hc : (ps.length : Int) = c) (h1 : 1 ≤ ps.length) (h2 : ps.length ≤ 1000)
    (q : ∀ x y t H', (x, y) ∈ ps → H' t = some (.tup [.int x, .int y]) → Deck H' b qs (n + 1) → SameS (b :: qs) H H' → Q (.ref t) H') : tOp (rIxL K) (tLst (tPairs ps)) (tCall (sp__law_draw K) [] E (tCons (tVar j) (tCons (tC (.int c)) tNil))) σ H Q := by
  have hz : sizeLine = 16777216 := by decide
  have e40 : (2 : Nat) ^ 40 = 1099511627776 := by decide
  have e50 : (2 : Nat) ^ 50 = 1125899906842624 := by decide
  rw [e40] at hn
  refine tPairs_go fun ts H1 hl s1 hs => ⟨by omega, fun t nt => ⟨_, hσ, b, qs, n, c, rfl, (hD.same s1).new nt, by omega, by omega, by omega, fun r H2 r0 r1 D2 s2 => ?_⟩⟩
  obtain ⟨v, hv⟩ : ∃ d, ts[r.toNat]? = some d := ⟨_, List.getElem?_eq_getElem (by omega)⟩
  obtain ⟨t', x, y, rfl, hm, ht⟩ := hs _ _ hv
  have f1 := (hD.same s1).fresh nt
  refine ⟨t, _, _, _, rfl, rfl, .inl (.inl (s2.at f1 upd_same)), atI_nn r0 hv, q x y t' H2 hm ?_ D2 ((SameS.of (s1.trans (same_new nt))).trans s2)⟩
  -- a pair's tuple is none of the deck's
  have D1 := hD.same s1
  have ns : t' ∉ b :: qs := by
    obtain ⟨⟨p0, ps0, t0, rfl, e1, e2, _, _, _, e6⟩, _⟩ := D1
    intro hm'
    rcases List.mem_cons.mp hm' with rfl | hm'
    · rw [ht] at e1
      cases e1
    · rcases List.mem_cons.mp hm' with rfl | hm'
      · rw [ht] at e2
        cases e2
      · obtain ⟨_, _, _, e, _⟩ := e6 t' hm'
        rw [ht] at e
        cases e
  exact s2.at ns (at_new ht nt)

structure sp__law_span (K : PySem.W.Frag) (vs : List V) (H : Hp) (Q : VK) (E : XK) : Prop where
  h : ∃ a ns, vs = [.ref a] ∧ SqL K H a (iV ns) ∧ Q (.int (total ns)) H

structure sp__law_plan (K : PySem.W.Frag) (vs : List V) (H : Hp) (Q : VK) (E : XK) : Prop where
  h : ∃ a qs n most longest, vs = [.ref a, .int most, .int longest] ∧ Deck H a qs n ∧ n ≤ 2 ^ 40 ∧ 1 ≤ most ∧ most ≤ 1000 ∧ 1 ≤ longest ∧ longest ≤ 600 ∧
  ∀ p ws H', H p = none → SameS (a :: qs) H H' → Deck H' a qs (n + 5000) → IL H' p ws → Txt' ws → Q (.ref p) H'

structure sp__law_begins (K : PySem.W.Frag) (vs : List V) (H : Hp) (Q : VK) (E : XK) : Prop where
  h : ∃ a ns w k, vs = [.ref a, .int w, .int k] ∧ SqL K H a (iV ns) ∧ ns.length ≤ 100000 ∧ 0 ≤ k ∧ k < ns.length ∧ ∀ p H', H p = none → Same H H' → IL H' p (firstsOf ns w k.toNat) → Q (.ref p) H'

structure sp__law_pair_right (K : PySem.W.Frag) (vs : List V) (H : Hp) (Q : VK) (E : XK) : Prop where
  h : ∃ a ws wd i j, vs = [.ref a, .int wd, .int i, .int j] ∧ IL H a ws ∧ Txt' ws ∧ 1 ≤ wd ∧ wd ≤ 1000 ∧ 0 ≤ i ∧ i < ws.length ∧ 0 ≤ j ∧ j < ws.length ∧ ∀ H', Same H H' → Q (.bl true) H'

structure sp__law_edit_right (K : PySem.W.Frag) (vs : List V) (H : Hp) (Q : VK) (E : XK) : Prop where
  h : ∃ a qs n w ws wd, vs = [.ref a, .ref w, .int wd] ∧ Deck H a qs n ∧ n ≤ 2 ^ 39 ∧ IL H w ws ∧ w ∉ a :: qs ∧ Txt' ws ∧ 1 ≤ wd ∧ wd ≤ 1000 ∧ ∀ H', SameS (a :: qs) H H' → Deck H' a qs (n + 6000) → Q (.bl true) H'

structure sp_law (K : PySem.W.Frag) (vs : List V) (H : Hp) (Q : VK) (E : XK) : Prop where
  h : ∃ a ns, vs = [.ref a] ∧ SqL K H a (iV ns) ∧ ns.length ≤ 63 ∧ (∀ z ∈ ns, Builtin.Int.intBits z ≤ 1048576) ∧ ∀ H', Q (.bl true) H'

section
variable {P : Program} {w : World} {K : PySem.W.Frag} {mg : Str → Option Value} {base : Heap}
theorem ok_is_integer {f : Addr} {fd : FuncData} (F : FnP K "is_integer" (top 10) [.non] f fd) (W : Wd K mg)  : FnOk P w K mg base CX0 1 f fd ["value", "low", "high"] (sp_is_integer K) := by
  refine FunD.ok F sc_is_integer (fun vs H Q E h => ?len) (fun cdv A outer s H vs Q E hr h => ?_)
  case len =>
    obtain ⟨v, o, lo, hi, rfl, _⟩ := h
    rfl
  refine ⟨_, PSs.nox (pss_cons (ps_if (PW.pt (pw_or (pt_not (pt_val (pe_callB call_isi (by rfl) W.n_isinstance (by decide +kernel) (pa_cons (pv 0) (pa_cons (pe_ty (n := "int") W.n_int (by decide +kernel)) pa_nil))))) (pw_or1 (pt_val (pe_callB call_isi (by rfl) W.n_isinstance (by decide +kernel) (pa_cons (pv 0) (pa_cons (pe_ty (n := "bool") W.n_bool (by decide +kernel)) pa_nil))))))) (pss_one (ps_ret pe_bl)) pss_nil)
  (pss_one (ps_ret (pe_and (pe_cmpR op_le (pv 1) (pv 0) (nomark _)) (pe_one (pe_or (pe_cmpR op_isN (pv 2) pe_non (nomark _)) (pe_one (pe_cmpR op_le (pv 0) (pv 2) (nomark _))))))))), ?_⟩
  obtain ⟨v, o, lo, hi, rfl, hv, hh, q⟩ := h
  refine ⟨_, rfl, _, _, _, _, _, rfl, .ty _, hv.ty, isi_int o, _, rfl, ?_⟩
  rw [isI_int]
  cases hv with
  | e ha => exact q
  | d hd hs =>
    cases hd with
    | non => exact q
    | str x => exact q
    | lst _ _ => exact q
    | tup _ _ => exact q
    | bl b =>
      refine ⟨_, rfl, _, _, _, _, _, rfl, .ty _, .base (.bl b), isi_bool (some (.bool b)), _, rfl, ?_⟩
      rw [isI_bool]
      exact q
    | int i =>
      refine ⟨_, rfl, _, _, _, _, _, rfl, .ty _, .base (.int i), isi_bool (some (.int i)), _, rfl, ?_⟩
      rw [isI_bool]
      refine ⟨_, rfl, _, rfl, _, _, rfl, rfl, _, rfl, ?_⟩
      by_cases c : lo ≤ i
      · rw [decide_eq_true c]
        refine iteT ⟨_, rfl, rfl, _, rfl, ?_⟩
        rcases hh with rfl | ⟨h, rfl⟩
        · refine iteT ?_
          simpa [isIntV, c] using q
        · refine iteF ⟨_, rfl, _, rfl, _, _, rfl, rfl, ?_⟩
          simpa [isIntV, c] using q
      · rw [decide_eq_false c]
        refine iteF ?_
        simpa [isIntV, c] using q
theorem ok_is_width {f : Addr} {fd : FuncData} (F : FnP K "is_width" (top 11) [] f fd) (W : Wd K mg) (c_is_integer : Cal P w K mg base CX0 1 "is_integer" ["value", "low", "high"] [] (sp_is_integer K)) : FnOk P w K mg base CX0 2 f fd ["value"] (sp_is_width K) := by
  refine FunD.ok F sc_is_width (fun vs H Q E h => ?len) (fun cdv A outer s H vs Q E hr h => ?_)
  case len =>
    obtain ⟨v, o, rfl, _⟩ := h
    rfl
  refine ⟨_, PSs.nox (pss_one (ps_ret (pe_cal c_is_integer (hr.mono (by decide)) pass0 (pa_cons (pv 0) (pa_cons pe_int (pa_cons (pe_gint W.c_MAX_WIDTH) pa_nil)))))), ?_⟩
  obtain ⟨v, o, rfl, hv, q⟩ := h
  exact ⟨_, rfl, v, o, 1, .int 1000, rfl, hv, .inr ⟨_, rfl⟩, q⟩
theorem ok_total_of {f : Addr} {fd : FuncData} (F : FnP K "total_of" (top 12) [] f fd) (W : Wd K mg)  : FnOk P w K mg base CX0 1 f fd ["lengths"] (sp_total_of K) := by
  refine FunD.ok F sc_total_of (fun vs H Q E h => ?len) (fun cdv A outer s H vs Q E hr h => ?_)
  case len =>
    obtain ⟨a, ns, rfl, _⟩ := h
    rfl
  refine ⟨_, PSs.nox (pss_one (ps_ret (pe_op op_sub (pe_op op_add (pe_callB (cr_sum rfl) (by rfl) W.n_sum (by decide +kernel) (pa_cons (pv 0) pa_nil)) (pe_callB call_len_seq (by rfl) W.n_len (by decide +kernel) (pa_cons (pv 0) pa_nil))) pe_int))), ?_⟩
  obtain ⟨a, ns, rfl, hS, q⟩ := h
  refine ⟨_, rfl, a, ns, rfl, hS, _, rfl, a, _, rfl, .inl hS, _, _, rfl, rfl, _, _, rfl, rfl, ?_⟩
  rw [List.length_map]
  exact q
theorem ok_are_lengths {f : Addr} {fd : FuncData} (F : FnP K "are_lengths" (top 13) [] f fd) (W : Wd K mg) (c_total_of : Cal P w K mg base CX0 1 "total_of" ["lengths"] [] (sp_total_of K)) (c_is_integer_2 : Cal P w K mg base CX0 1 "is_integer" ["value", "low", "high"] [.non] (sp_is_integer K)) : FnOk P w K mg base CX0 2 f fd ["value"] (sp_are_lengths K) := by
  refine FunD.ok F sc_are_lengths (fun vs H Q E h => ?len) (fun cdv A outer s H vs Q E hr h => ?_)
  case len =>
    obtain ⟨v, o, rfl, _⟩ := h
    rfl
  refine ⟨_, PSs.nox (pss_cons (ps_if (PW.pt (pw_or (pt_not (pt_val (pe_callB call_isi (by rfl) W.n_isinstance (by decide +kernel) (pa_cons (pv 0) (pa_cons (pe_ty (n := "list") W.n_list (by decide +kernel)) pa_nil))))) (pw_or (pt_cmpR (op_eqD hr.units) (pv 0) (pe_lst pa_nil) (nomark _)) (pw_or1 (pt_not (pt_val (pe_callB (cr_all rfl) (by rfl) W.n_all (by decide +kernel) (pa_cons (pe_lc (own := [("length", 1)]) (g := (gName 1)) (by rfl) sc_are_lengths.nd (pi_list (pv 0)) (blkOk_by (own := [("length", 1)]) (N := ["value", "length"]) (sc := defScope (top 13)) (by decide +kernel)) (fun _ _ _ _ _ => (pg_name (i := 1) sc_are_lengths.nd rfl (Or.inl rfl))) (fun _ _ _ _ _ => pts_nil) (fun _ _ _ _ _ => (pe_cal c_is_integer_2 (hr.mono (by decide)) pass0 (pa_cons (pv 1) (pa_cons pe_int pa_nil))))) pa_nil)))))))) (pss_one (ps_ret pe_bl)) pss_nil)
  (pss_one (ps_ret (pe_cmpR op_le (pe_cal c_total_of (hr.mono (by decide)) pass0 (pa_cons (pv 0) pa_nil)) (pe_gint W.c_MAX_CHARACTERS) (nomark _))))), ?_⟩
  obtain ⟨v, o, rfl, hv, hz, q⟩ := h
  refine ⟨_, rfl, _, _, _, _, _, rfl, .ty _, hv.ty, isi_list o, _, rfl, ?_⟩
  rw [isI_list]
  cases hv with
  | e ha => exact q _ (Same.refl _)
  | d hd hs =>
    cases hd with
    | non => exact q _ (Same.refl _)
    | str x => exact q _ (Same.refl _)
    | bl _ => exact q _ (Same.refl _)
    | int _ => exact q _ (Same.refl _)
    | tup _ _ => exact q _ (Same.refl _)
    | @lst a xs ds hS ha =>
      have hl := dpAll_len ha
      have hz' : ds.length ≤ sizeLine := hz ds rfl
      refine ⟨_, rfl, (by decide), fun p hp => ?_⟩
      have s1 : Same H (upd H p (.lst [])) := same_new hp
      refine ⟨.list ds, .list [], .lst (s1.seq hS) (DpAll.same s1 _ _ ha), .lst (.inl (.inl upd_same)) .nil, hs, by decide, _, rfl, ?_⟩
      cases ds with
      | nil => exact q _ s1
      | cons d ds =>
        have e0 : PyData.eqv (.list (d :: ds)) (.list []) = false := by simp [PyData.eqv, PyData.eqvAll]
        rw [e0]
        refine iteF ⟨.ref a, rfl, a, rfl, ⟨xs, s1.seq hS⟩, fun D nD => ?_⟩
        refine lc_mapL (xs := xs) (((d :: ds).map fun d => V.bl (isLen d))) (by rw [List.length_map, hl]) (by rw [hl]; exact hz') (s1.seq hS) nD (fun i x y H' hx hy s2 Q' k => ?_) (fun H' s2 eD => ?_)
        · obtain ⟨d', e', hd'⟩ := dpAll_get ha hx
          refine ⟨x, rfl, x, some d', 1, .non, rfl, .d (Dp.same (s1.trans s2) _ _ hd') ?_, .inl rfl, ?_⟩
          · exact shaped_item hs (List.mem_of_getElem? e')
          · rw [List.getElem?_map, e'] at hy
            have hy' : V.bl (isLen d') = y := Option.some.inj hy
            have e2 : isIntV x 1 .non = isLen d' := by cases hd' <;> simp [isIntV, isLen]
            rw [e2, hy']
            exact k H' (Same.refl _)
        · refine ⟨D, (d :: ds).map isLen, rfl, .inl (.inl (by rw [eD, List.map_map]; rfl)), _, rfl, ?_⟩
          have s3 : Same H H' := s1.trans s2
          cases c : (((d :: ds).map isLen).all id) with
          | false =>
            refine iteT ?_
            have e3 : areLengths (some (.list (d :: ds))) = false := by
              have : (d :: ds).all isLen = false := by simpa [List.all_map] using c
              simp [areLengths, this]
            rw [← e3]
            exact q H' s3
          | true =>
            refine iteF ?_
            have ca : (d :: ds).all isLen = true := by simpa [List.all_map] using c
            have hi : xs = iV ((d :: ds).map lenOf) := dpAll_lens ha ca
            refine ⟨.ref a, rfl, a, (d :: ds).map lenOf, rfl, by rw [← hi]; exact s3.seq hS, _, _, rfl, rfl, ?_⟩
            have e3 : areLengths (some (.list (d :: ds))) = decide (total ((d :: ds).map lenOf) ≤ 600) := by simp [areLengths, ca]
            dsimp only
            rw [← e3]
            exact q H' s3
theorem ok_is_text {f : Addr} {fd : FuncData} (F : FnP K "is_text" (top 14) [] f fd) (W : Wd K mg) (c_are_lengths : Cal P w K mg base CX0 2 "are_lengths" ["value"] [] (sp_are_lengths K)) : FnOk P w K mg base CX0 3 f fd ["value"] (sp_is_text K) := by
  refine FunD.ok F sc_is_text (fun vs H Q E h => ?len) (fun cdv A outer s H vs Q E hr h => ?_)
  case len =>
    obtain ⟨v, o, rfl, _⟩ := h
    rfl
  refine ⟨_, PSs.nox (pss_one (ps_ret (pe_cal c_are_lengths (hr.mono (by decide)) pass0 (pa_cons (pv 0) pa_nil)))), ?_⟩
  obtain ⟨v, o, rfl, hv, hz, q⟩ := h
  exact ⟨_, rfl, v, o, rfl, hv, hz, q⟩
theorem ok_require_text {f : Addr} {fd : FuncData} (F : FnP K "require_text" (top 15) [] f fd) (W : Wd K mg) (c_is_text : Cal P w K mg base CX0 3 "is_text" ["value"] [] (sp_is_text K)) : FnOk P w K mg base (L2.CX P w) 4 f fd ["text"] (sp_require_text K) := by
  refine FunD.ok F sc_require_text (fun vs H Q E h => ?len) (fun cdv A outer s H vs Q E hr h => ?_)
  case len =>
    obtain ⟨v, o, rfl, _⟩ := h
    rfl
  refine ⟨_, (pss_one (ps_if (pt_not (pt_val (pe_cal c_is_text (hr.mono (by decide)) pass0 (pa_cons (pv 0) pa_nil)))) (pss_one (ps_raiseT (takes_of rfl rfl rfl rfl) W.x_InvalidText)) pss_nil)), ?_⟩
  obtain ⟨v, o, rfl, hv, hz, q, qe⟩ := h
  refine ⟨_, rfl, v, o, rfl, hv, hz, fun H' s => ⟨_, rfl, ?_⟩⟩
  cases c : areLengths o with
  | true => exact q c H' s
  | false => exact qe c H' s
theorem ok_require_width {f : Addr} {fd : FuncData} (F : FnP K "require_width" (top 16) [] f fd) (W : Wd K mg) (c_is_width : Cal P w K mg base CX0 2 "is_width" ["value"] [] (sp_is_width K)) : FnOk P w K mg base (L2.CX P w) 3 f fd ["width"] (sp_require_width K) := by
  refine FunD.ok F sc_require_width (fun vs H Q E h => ?len) (fun cdv A outer s H vs Q E hr h => ?_)
  case len =>
    obtain ⟨v, o, rfl, _⟩ := h
    rfl
  refine ⟨_, (pss_one (ps_if (pt_not (pt_val (pe_cal c_is_width (hr.mono (by decide)) pass0 (pa_cons (pv 0) pa_nil)))) (pss_one (ps_raiseT (takes_of rfl rfl rfl rfl) W.x_InvalidWidth)) pss_nil)), ?_⟩
  obtain ⟨v, o, rfl, hv, q, qe⟩ := h
  refine ⟨_, rfl, v, o, rfl, hv, _, rfl, ?_⟩
  cases c : isWidth v with
  | true => exact q c
  | false => exact qe c
theorem ok_ends_of {f : Addr} {fd : FuncData} (F : FnP K "ends_of" (top 17) [] f fd) (W : Wd K mg)  : FnOk P w K mg base CX0 1 f fd ["lengths"] (sp_ends_of K) := by
  refine FunD.ok F sc_ends_of (fun vs H Q E h => ?len) (fun cdv A outer s H vs Q E hr h => ?_)
  case len =>
    obtain ⟨a, ns, rfl, _⟩ := h
    rfl
  refine ⟨_, PSs.nox (pss_cons (ps_par (i := 1) (j := 2) (by rfl) sc_ends_of.nd rfl rfl (by decide) rfl rfl (pa_cons (pe_lst pa_nil) (pa_cons (pe_un un_neg pe_int) pa_nil)) (by rfl))
  (pss_cons (ps_for PassesOwn.never rfl (pi_list (pv 0)) (pg_name (i := 3) sc_ends_of.nd rfl (Or.inl rfl))
  (pss_cons (ps_aug (i := 2) sc_ends_of.nd rfl (.inl rfl) (pe_op op_add pe_int (pv 3)) ip_add)
  (pss_one (ps_expr (pe_bm PySem.F.plainAttrs_list PySem.F.slot_list_append PySem.F.type_list_append mt_append (pv 1) (pa_cons (pv 2) pa_nil))))))
  (pss_one (ps_ret (pv 1))))), ?_⟩
  obtain ⟨a, ns, rfl, hS, hl, q⟩ := h
  refine ⟨Nat.zero_le _, fun p hp => ⟨_, rfl, _, _, rfl, ?_⟩⟩
  refine ⟨_, rfl, a, rfl, ⟨_, (same_new hp).seq hS⟩, for_list (xs := iV ns) (fun i σ H' => ∃ j, σ = [some (.ref a), some (.ref p), some (.int (lastEnd ns i)), j] ∧ Same H H' ∧ IL H' p ((endsOf ns).take i))
    ⟨_, rfl, same_new hp, upd_same⟩ (fun i σ H' _ ⟨_, _, s, _⟩ => s.seq hS) ?_ ?_⟩
  · rintro i x σ H' hx ⟨j, rfl, s, e⟩
    obtain ⟨z, hz, rfl⟩ := ints_get hx
    have hi : i < ns.length := (List.getElem?_eq_some_iff.mp hz).1
    refine ⟨_, rfl, _, rfl, _, _, rfl, rfl, _, _, rfl, rfl, ?_⟩
    refine ⟨_, rfl, .inl ⟨rfl, _, .inl (.inl e)⟩, _, rfl, p, _, _, rfl, rfl, e, ?_, ?_⟩
    · rw [List.length_map, List.length_take]
      omega
    · have e2 : lastEnd ns i + (1 + z) = lastEnd ns (i + 1) := (lastEnd_succ hz).symm
      dsimp only
      rw [e2]
      refine ⟨_, rfl, same_mut s hp, ?_⟩
      rw [ints_push, ends_take hz]
      exact upd_same
  · rintro σ H' ⟨j, rfl, s, e⟩
    refine ⟨_, rfl, q p H' hp s ?_⟩
    rw [List.length_map] at e
    rwa [List.take_of_length_le (by rw [endsOf_len]; exact Nat.le_refl _)] at e
theorem ok_starts_of {f : Addr} {fd : FuncData} (F : FnP K "starts_of" (top 18) [] f fd) (W : Wd K mg)  : FnOk P w K mg base CX0 1 f fd ["ends"] (sp_starts_of K) := by
  refine FunD.ok F sc_starts_of (fun vs H Q E h => ?len) (fun cdv A outer s H vs Q E hr h => ?_)
  case len =>
    obtain ⟨a, es, rfl, _⟩ := h
    rfl
  refine ⟨_, PSs.nox (pss_one (ps_ret (pe_op op_cat (pe_lst (pa_cons pe_int pa_nil)) (pe_lc (own := [("end", 1)]) (g := (gName 1)) (by rfl) sc_starts_of.nd (pi_list (pe_slice sl_list (pv 0) po_none (po_some (pe_un un_neg pe_int)))) (blkOk_by (own := [("end", 1)]) (N := ["ends", "end"]) (sc := defScope (top 18)) (by decide +kernel)) (fun _ _ _ _ _ => (pg_name (i := 1) sc_starts_of.nd rfl (Or.inl rfl))) (fun _ _ _ _ _ => pts_nil) (fun _ _ _ _ _ => (pe_op op_add (pv 1) pe_int)))))), ?_⟩
  obtain ⟨a, es, rfl, hS, hl, q⟩ := h
  have hz : sizeLine = 16777216 := by decide
  refine rt_ret (op_go ⟨(by show 1 ≤ sizeLine; decide), fun p1 n1 => ?_⟩)
  refine ⟨_, rfl, _, rfl, _, rfl, a, _, rfl, (same_new n1).seq hS, fun c nc => ⟨c, rfl, ⟨_, .inl (.inl upd_same)⟩, fun D nD => ?_⟩⟩
  have ecut : cutV (iV es) none (some (-1)) = iV es.dropLast := by rw [cutV_map, cutL_init]
  rw [ecut]
  have hl2 : (iV es.dropLast).length ≤ sizeLine := by rw [List.length_map, List.length_dropLast]; omega
  rw [ecut] at nD
  refine lc_mapL (xs := iV es.dropLast) (iV (es.dropLast.map (· + 1))) (by simp) hl2 (.inl (.inl upd_same)) nD (fun i x y H' hx hy s Q' k => ?_) (fun H' s eD => ?_)
  · obtain ⟨z, hz1, rfl⟩ := ints_get hx
    refine ⟨_, rfl, _, _, rfl, rfl, ?_⟩
    have : (iV (es.dropLast.map (· + 1)))[i]? = some (.int (z + 1)) := get_ints (by rw [List.getElem?_map, hz1]; rfl)
    rw [this] at hy
    show Q' (V.int (z + 1)) H'
    rw [Option.some.inj hy]
    exact k H' (Same.refl _)
  · have s1 : Same (upd H p1 (.lst [.int 0])) H' := (same_new nc).trans s
    refine ⟨p1, D, _, _, rfl, rfl, s1 _ _ upd_same, eD, ?_, fun p np => q p _ ?_ ((same_new n1).trans (s1.trans (same_new np))) ?_⟩
    · simp
      omega
    · exact fresh_of ((same_new n1).trans s1) np
    · exact upd_same
theorem ok_lengths_of {f : Addr} {fd : FuncData} (F : FnP K "lengths_of" (top 19) [] f fd) (W : Wd K mg) (c_starts_of : Cal P w K mg base CX0 1 "starts_of" ["ends"] [] (sp_starts_of K)) : FnOk P w K mg base CX0 2 f fd ["ends"] (sp_lengths_of K) := by
  refine FunD.ok F sc_lengths_of (fun vs H Q E h => ?len) (fun cdv A outer s H vs Q E hr h => ?_)
  case len =>
    obtain ⟨a, es, rfl, _⟩ := h
    rfl
  refine ⟨_, PSs.nox (pss_one (ps_ret (pe_lc (own := [("start", 1), ("end", 2)]) (g := (gTup K 2 (gCons (gName 1) (gCons (gName 2) gNil)))) (by rfl) sc_lengths_of.nd (pi_zip (by rfl) W.n_zip (pa_cons (pe_cal c_starts_of (hr.mono (by decide)) pass0 (pa_cons (pv 0) pa_nil)) (pa_cons (pv 0) pa_nil))) (blkOk_by (own := [("start", 1), ("end", 2)]) (N := ["ends", "start", "end"]) (sc := defScope (top 19)) (by decide +kernel)) (fun _ _ _ _ _ => (pg_tup rfl (pgs_cons (pg_name (i := 1) sc_lengths_of.nd rfl (Or.inl rfl)) (pgs_cons (pg_name (i := 2) sc_lengths_of.nd rfl (Or.inl rfl)) pgs_nil)))) (fun _ _ _ _ _ => pts_nil) (fun _ _ _ _ _ => (pe_op op_sub (pv 2) (pv 1)))))), ?_⟩
  obtain ⟨a, es, rfl, hS, h0, hl, q⟩ := h
  have hz : sizeLine = 16777216 := by decide
  have hlen : (startsOf es).length = es.length := by
    unfold startsOf
    have := List.length_pos_iff.mpr h0
    simp
    omega
  refine rt_ret ?_
  refine ⟨_, rfl, a, es, rfl, hS, hl, fun p1 H1 n1 s1 e1 => ⟨_, rfl, p1, a, _, _, rfl, e1.seq, s1.seq hS, fun D nD => ?_⟩⟩
  refine lc_mapZ (xs := iV (startsOf es)) (ys := iV es) (iV (lengthsOf es)) (by simp [hlen]) (by simp [hlen, lengthsOf, lenFrom_len]) (by simp [hlen]; omega) e1.seq (s1.seq hS) nD (fun i x y z H' hx hy hzz s Q' k => ?_) (fun H' s eD => ?_)
  · obtain ⟨sv, hs1, rfl⟩ := ints_get hx
    obtain ⟨ev, he1, rfl⟩ := ints_get hy
    refine ⟨_, rfl, _, rfl, _, _, rfl, rfl, ?_⟩
    have := get_ints (lenFrom_get es 0 i sv ev hs1 he1)
    rw [show iV (lenFrom 0 es) = iV (lengthsOf es) from rfl, hzz] at this
    show Q' (V.int (ev - sv)) H'
    rw [← Option.some.inj this]
    exact k H' (Same.refl _)
  · exact q D H' (fresh_of s1 nD) (s1.trans s) eD
theorem ok_wrapped_ends {f : Addr} {fd : FuncData} (F : FnP K "wrapped_ends" (top 20) [] f fd) (W : Wd K mg)  : FnOk P w K mg base CX0 1 f fd ["stops", "width"] (sp_wrapped_ends K) := by
  refine FunD.ok F sc_wrapped_ends (fun vs H Q E h => ?len) (fun cdv A outer s H vs Q E hr h => ?_)
  case len =>
    obtain ⟨a, stops, w, rfl, _⟩ := h
    rfl
  refine ⟨_, PSs.nox (pss_cons (ps_par (i := 2) (j := 3) (by rfl) sc_wrapped_ends.nd rfl rfl (by decide) rfl rfl (pa_cons (pe_lst pa_nil) (pa_cons pe_int pa_nil)) (by rfl))
  (pss_cons (ps_for PassesOwn.never rfl (pi_zip (by rfl) W.n_zip (pa_cons (pv 0) (pa_cons (pe_slice sl_list (pv 0) (po_some pe_int) po_none) pa_nil))) (pg_tup rfl (pgs_cons (pg_name (i := 4) sc_wrapped_ends.nd rfl (Or.inl rfl)) (pgs_cons (pg_name (i := 5) sc_wrapped_ends.nd rfl (Or.inl rfl)) pgs_nil)))
  (pss_one (ps_if (pt_cmpR op_gt (pv 5) (pe_op op_add (pv 3) (pv 1)) (nomark _)) (pss_cons (ps_expr (pe_bm PySem.F.plainAttrs_list PySem.F.slot_list_append PySem.F.type_list_append mt_append (pv 2) (pa_cons (pv 4) pa_nil)))
  (pss_one (ps_set (i := 3) sc_wrapped_ends.nd rfl (.inl rfl) (pe_op op_add (pv 4) pe_int)))) pss_nil)))
  (pss_one (ps_ret (pe_op op_cat (pv 2) (pe_slice sl_list (pv 0) (po_some (pe_un un_neg pe_int)) po_none)))))), ?_⟩
  obtain ⟨a, stops, w, rfl, hS, h0, hl, q⟩ := h
  have hz : sizeLine = 16777216 := by decide
  refine ⟨Nat.zero_le _, fun p np => ⟨_, _, rfl, ?_⟩⟩
  refine ⟨_, rfl, _, rfl, _, rfl, a, _, rfl, (same_new np).seq hS, fun c nc => ?_⟩
  have ecut : cutV (iV stops) (some 1) none = iV (stops.drop 1) := by rw [cutV_map, cutL_from _ _ (by decide)]; rfl
  rw [ecut]
  have ncp : c ≠ p := (ne_of_none (L2.upd_same (H := H) (a := p)) nc).symm
  have sC : Same H (upd (upd H p (.lst [])) c (.lst (iV (stops.drop 1)))) := (same_new np).trans (same_new nc)
  refine ⟨a, c, _, _, rfl, sC.seq hS, .inl (.inl upd_same), ?_⟩
  refine for_it (n := (stops.drop 1).length) (walk_zip (xs := iV stops) (ys := iV (stops.drop 1)) (by simp)) (fun i σ H' => ∃ st found j4 j5, σ = [some (.ref a), some (.int w), some (.ref p), some (.int st), j4, j5] ∧
      SameB p (upd (upd H p (.lst [])) c (.lst (iV (stops.drop 1)))) H' ∧ IL H' p found ∧ found ++ wrapGo w st (stops.drop i) = wrappedEnds stops w) ⟨0, [], none, none, rfl, SameB.refl _ _, at_new upd_same nc, rfl⟩ ?_ ?_ ?_
  · rintro i σ H' hi ⟨st, found, j4, j5, rfl, s, e, hr⟩
    refine ⟨(SameB.all sC np s).seq hS, .inl (.inl (s c _ ncp upd_same))⟩
  · rintro i v σ H' H2 hi ⟨st, found, j4, j5, rfl, s, e, hr⟩ ⟨T, x, y, rfl, nT, rfl, hx, hy⟩
    obtain ⟨sv, hs1, rfl⟩ := ints_get hx
    obtain ⟨tv, ht1, rfl⟩ := ints_get hy
    have ht1' : stops[i + 1]? = some tv := by rw [List.getElem?_drop, Nat.add_comm] at ht1; exact ht1
    refine ⟨T, _, rfl, .inl (.inl upd_same), rfl, _, _, rfl, _, _, rfl, rfl, ?_⟩
    have nTp : p ≠ T := ne_of_none e nT
    have e2 : IL (upd H' T (.tup [.int sv, .int tv])) p found := at_new e nT
    have s2 : SameB p (upd (upd H p (.lst [])) c (.lst (iV (stops.drop 1)))) (upd H' T (.tup [.int sv, .int tv])) := s.trans (SameB.of (same_new nT))
    have hd := wrapGo_drop w st sv tv stops i hs1 ht1'
    refine ⟨_, rfl, _, rfl, _, rfl, _, _, rfl, rfl, _, _, rfl, rfl, _, rfl, ?_⟩
    by_cases c1 : st + w < tv
    · rw [decide_eq_true c1]
      rw [hd, if_pos c1] at hr
      refine iteT (sq_drop ?_)
      have hfl : found.length ≤ stops.length := by
        have h1 := congrArg List.length hr
        have h2 := wrapGo_len w 0 stops
        unfold wrappedEnds at h1
        rw [List.length_append] at h1
        omega
      refine ⟨_, rfl, .inl ⟨rfl, _, e2.seq⟩, _, rfl, p, _, _, rfl, rfl, e2, by rw [List.length_map]; omega, ?_⟩
      refine ⟨_, rfl, _, _, rfl, rfl, sv + 1, found ++ [sv], _, _, rfl, ?_, ?_, ?_⟩
      · intro b o nb eb
        rw [upd_ne nb]
        exact s2 b o nb eb
      · rw [ints_push]
        exact upd_same
      · rw [← hr, List.append_assoc]
        rfl
    · rw [decide_eq_false c1]
      rw [hd, if_neg c1] at hr
      exact iteF ⟨st, found, _, _, rfl, s2, e2, hr⟩
  · rintro σ H' ⟨st, found, j4, j5, rfl, s, e, hr⟩
    have sA : Same H H' := SameB.all sC np s
    have elast : stops.drop (stops.drop 1).length = [stops.getLast h0] := by
      rw [List.length_drop]
      exact drop_end h0
    rw [elast] at hr
    have ecl : cutV (iV stops) (some (-1)) none = iV [stops.getLast h0] := by
      rw [cutV_map]
      congr 1
      unfold cutL
      have e1 : HT.sIx stops.length 0 (some (-1)) = stops.length - 1 := by
        show (if (-1 : Int) < 0 then ((-1 : Int) + (stops.length : Int)).toNat else min (-1 : Int).toNat stops.length) = _
        rw [if_pos (by decide)]
        omega
      have hp := List.length_pos_iff.mpr h0
      rw [e1, HT.sIx_none, drop_end h0]
      have : stops.length - (stops.length - 1) = 1 := by omega
      rw [this]
      rfl
    have hr' : found ++ [stops.getLast h0] = wrappedEnds stops w := hr
    dsimp only
    refine rt_ret (op_go ⟨_, rfl, _, rfl, _, rfl, _, rfl, a, _, rfl, sA.seq hS, fun d nd => ?_⟩)
    rw [ecl]
    refine ⟨p, d, _, _, rfl, rfl, at_new e nd, upd_same, ?_, fun r nr => ?_⟩
    · have h1 := congrArg List.length hr'
      have h2 := wrapGo_len w 0 stops
      unfold wrappedEnds at h1
      rw [List.length_append] at h1
      simp at h1 ⊢
      omega
    · refine q r _ (fresh_of (sA.trans (same_new nd)) nr) (sA.trans ((same_new nd).trans (same_new nr))) ?_
      have e3 : iV found ++ iV [stops.getLast h0] = iV (wrappedEnds stops w) := by rw [ints_app, hr']
      rw [e3]
      exact upd_same
theorem ok_wrap_of {f : Addr} {fd : FuncData} (F : FnP K "wrap_of" (top 21) [] f fd) (W : Wd K mg) (c_lengths_of : Cal P w K mg base CX0 2 "lengths_of" ["ends"] [] (sp_lengths_of K)) (c_wrapped_ends : Cal P w K mg base CX0 1 "wrapped_ends" ["stops", "width"] [] (sp_wrapped_ends K)) (c_ends_of : Cal P w K mg base CX0 1 "ends_of" ["lengths"] [] (sp_ends_of K)) : FnOk P w K mg base CX0 3 f fd ["text", "width"] (sp_wrap_of K) := by
  refine FunD.ok F sc_wrap_of (fun vs H Q E h => ?len) (fun cdv A outer s H vs Q E hr h => ?_)
  case len =>
    obtain ⟨a, ns, w, rfl, _⟩ := h
    rfl
  refine ⟨_, PSs.nox (pss_one (ps_ret (pe_cal c_lengths_of (hr.mono (by decide)) pass0 (pa_cons (pe_cal c_wrapped_ends (hr.mono (by decide)) pass0 (pa_cons (pe_cal c_ends_of (hr.mono (by decide)) pass0 (pa_cons (pv 0) pa_nil)) (pa_cons (pv 1) pa_nil))) pa_nil)))), ?_⟩
  obtain ⟨a, ns, w, rfl, hS, h0, hl, q⟩ := h
  have hz : sizeLine = 16777216 := by decide
  refine ⟨_, rfl, a, ns, rfl, hS, by omega, fun p1 H1 n1 s1 e1 => ⟨_, rfl, ?_⟩⟩
  have hne : endsOf ns ≠ [] := by
    intro e
    have := congrArg List.length e
    rw [endsOf_len] at this
    exact h0 (List.length_eq_zero_iff.mp this)
  refine ⟨p1, endsOf ns, w, rfl, e1.seq, hne, by rw [endsOf_len]; exact hl, fun p2 H2 n2 s2 e2 => ?_⟩
  have hl2 := wrapGo_len w 0 (endsOf ns)
  rw [endsOf_len] at hl2
  obtain ⟨s, r, es⟩ := List.exists_cons_of_ne_nil hne
  refine ⟨p2, wrappedEnds (endsOf ns) w, rfl, e2.seq, by unfold wrappedEnds; rw [es]; exact wrapGo_ne w 0 s r, by unfold wrappedEnds; omega, fun p3 H3 n3 s3 e3 => ?_⟩
  refine q p3 H3 (fresh_of (s1.trans s2) n3) ((s1.trans s2).trans s3) ?_
  have := wrap_eq ns w
  unfold wrapOf at this
  rw [← this]
  exact e3
theorem ok_wrap_text {f : Addr} {fd : FuncData} (F : FnP K "wrap_text" (top 22) [] f fd) (W : Wd K mg) (c_wrap_of : Cal P w K mg base CX0 3 "wrap_of" ["text", "width"] [] (sp_wrap_of K)) (c_require_width : Cal P w K mg base (L2.CX P w) 3 "require_width" ["width"] [] (sp_require_width K)) (c_require_text : Cal P w K mg base (L2.CX P w) 4 "require_text" ["text"] [] (sp_require_text K)) : FnOk P w K mg base (L2.CX P w) 5 f fd ["text", "width"] (sp_wrap_text K) := by
  refine FunD.ok F sc_wrap_text (fun vs H Q E h => ?len) (fun cdv A outer s H vs Q E hr h => ?_)
  case len =>
    obtain ⟨v, o, wv, wo, rfl, _⟩ := h
    rfl
  refine ⟨_, (pss_cons (ps_expr (pe_cal c_require_text (hr.mono (by decide)) (passes_call (takes_of rfl rfl rfl rfl) (fun _ _ _ _ h => h)) (pa_cons (pv 0) pa_nil)))
  (pss_cons (ps_expr (pe_cal c_require_width (hr.mono (by decide)) (passes_call (takes_of rfl rfl rfl rfl) (fun _ _ _ _ h => h)) (pa_cons (pv 1) pa_nil)))
  (pss_one (ps_ret (pe_cal c_wrap_of (hr.mono (by decide)) pass0 (pa_cons (pv 0) (pa_cons (pv 1) pa_nil))))))), ?_⟩
  obtain ⟨v, o, wv, wo, rfl, hv, hz, hw, q, qe, qw⟩ := h
  refine ⟨_, rfl, v, o, rfl, hv, hz, fun c H1 s1 => ?_, qe⟩
  refine ⟨_, rfl, wv, wo, rfl, hw _ s1, fun c2 => ?_, fun c2 => qw c c2 H1 s1⟩
  obtain ⟨a, ns, w, rfl, rfl, hS, h0, hl, q'⟩ := q c c2
  exact ⟨_, rfl, _, rfl, a, ns, w, rfl, s1.seq hS, h0, hl, fun p H2 n2 s2 e2 => q' p H2 (fresh_of s1 n2) (s1.trans s2) e2⟩
theorem ok_require_word {f : Addr} {fd : FuncData} (F : FnP K "require_word" (top 24) [] f fd) (W : Wd K mg) (c_is_integer : Cal P w K mg base CX0 1 "is_integer" ["value", "low", "high"] [] (sp_is_integer K)) : FnOk P w K mg base (L2.CX P w) 2 f fd ["text", "word"] (sp_require_word K) := by
  refine FunD.ok F sc_require_word (fun vs H Q E h => ?len) (fun cdv A outer s H vs Q E hr h => ?_)
  case len =>
    obtain ⟨a, ns, v, o, rfl, _⟩ := h
    rfl
  refine ⟨_, (pss_one (ps_if (pt_not (pt_val (pe_cal c_is_integer (hr.mono (by decide)) pass0 (pa_cons (pv 1) (pa_cons pe_int (pa_cons (pe_op op_sub (pe_callB call_len_seq (by rfl) W.n_len (by decide +kernel) (pa_cons (pv 0) pa_nil)) pe_int) pa_nil)))))) (pss_one (ps_raiseT (takes_of rfl rfl rfl rfl) W.x_InvalidIndex)) pss_nil)), ?_⟩
  obtain ⟨a, ns, v, o, rfl, hS, hv, q, qe⟩ := h
  refine ⟨_, rfl, _, rfl, a, _, rfl, .inl hS, _, _, rfl, rfl, v, o, 0, .int ((ns.length : Int) - 1), by rw [List.length_map]; rfl, hv, .inr ⟨_, rfl⟩, _, rfl, ?_⟩
  cases c : isIntV v 0 (.int ((ns.length : Int) - 1)) with
  | true => exact q c
  | false => exact qe c
theorem ok_wrap_from {f : Addr} {fd : FuncData} (F : FnP K "wrap_from" (top 25) [] f fd) (W : Wd K mg) (c_wrap_text : Cal P w K mg base (L2.CX P w) 5 "wrap_text" ["text", "width"] [] (sp_wrap_text K)) (c_require_word : Cal P w K mg base (L2.CX P w) 2 "require_word" ["text", "word"] [] (sp_require_word K)) (c_require_width : Cal P w K mg base (L2.CX P w) 3 "require_width" ["width"] [] (sp_require_width K)) (c_require_text : Cal P w K mg base (L2.CX P w) 4 "require_text" ["text"] [] (sp_require_text K)) : FnOk P w K mg base (L2.CX P w) 6 f fd ["text", "width", "word"] (sp_wrap_from K) := by
  refine FunD.ok F sc_wrap_from (fun vs H Q E h => ?len) (fun cdv A outer s H vs Q E hr h => ?_)
  case len =>
    obtain ⟨v, o, wv, wo, xv, xo, rfl, _⟩ := h
    rfl
  refine ⟨_, (pss_cons (ps_expr (pe_cal c_require_text (hr.mono (by decide)) (passes_call (takes_of rfl rfl rfl rfl) (fun _ _ _ _ h => h)) (pa_cons (pv 0) pa_nil)))
  (pss_cons (ps_expr (pe_cal c_require_width (hr.mono (by decide)) (passes_call (takes_of rfl rfl rfl rfl) (fun _ _ _ _ h => h)) (pa_cons (pv 1) pa_nil)))
  (pss_cons (ps_expr (pe_cal c_require_word (hr.mono (by decide)) (passes_call (takes_of rfl rfl rfl rfl) (fun _ _ _ _ h => h)) (pa_cons (pv 0) (pa_cons (pv 2) pa_nil))))
  (pss_one (ps_ret (pe_cal c_wrap_text (hr.mono (by decide)) (passes_call (takes_of rfl rfl rfl rfl) (fun _ _ _ _ h => h)) (pa_cons (pe_slice sl_list (pv 0) (po_some (pv 2)) po_none) (pa_cons (pv 1) pa_nil)))))))), ?_⟩
  obtain ⟨v, o, wv, wo, xv, xo, rfl, hv, hz, hw, hx, q, qe, qw⟩ := h
  refine ⟨_, rfl, v, o, rfl, hv, hz, fun c H1 s1 => ?_, qe⟩
  refine ⟨_, rfl, wv, wo, rfl, hw _ s1, fun c2 => ?_, fun c2 => qw c c2 H1 s1⟩
  obtain ⟨a, ns, w, rfl, rfl, hS, ht, q1, q2⟩ := q c c2
  have hl := ht.len
  refine ⟨_, rfl, _, rfl, a, ns, xv, xo, rfl, s1.seq hS, hx _ s1, fun c3 => ?_, fun c3 => q2 c3 H1 s1⟩
  obtain ⟨i, rfl, q3⟩ := q1 c3
  have hi : 0 ≤ i ∧ i < ns.length := by
    simp only [isWord, isIntV, Bool.and_eq_true, decide_eq_true_eq] at c3
    omega
  have hwd : 1 ≤ w ∧ w ≤ 1000 := by
    simpa [isWidth, isIntV] using c2
  refine ⟨_, rfl, _, rfl, _, rfl, a, _, rfl, s1.seq hS, fun cc nc => ?_⟩
  have ecut : cutV (iV ns) (some i) none = iV (ns.drop i.toNat) := by rw [cutV_map, cutL_from _ _ hi.1]
  rw [ecut]
  refine ⟨_, rfl, ?_⟩
  refine wrap_text_ok (w := cc) (ws := ns.drop i.toNat) (.inl (.inl upd_same)) (ht.drop (by omega)) hwd.1 hwd.2 fun p H2 n2 s2 e2 => ?_
  exact q3 p H2 (fresh_of (s1.trans (same_new nc)) n2) ((s1.trans (same_new nc)).trans s2) e2
theorem ok_first_words {f : Addr} {fd : FuncData} (F : FnP K "first_words" (top 26) [] f fd) (W : Wd K mg)  : FnOk P w K mg base CX0 1 f fd ["text", "width", "word"] (sp_first_words K) := by
  refine FunD.ok F sc_first_words (fun vs H Q E h => ?len) (fun cdv A outer s H vs Q E hr h => ?_)
  case len =>
    obtain ⟨a, ns, w, k, rfl, _⟩ := h
    rfl
  refine ⟨_, PSs.nox (pss_cons (ps_set (i := 3) sc_first_words.nd rfl (.inl rfl) (pe_lst pa_nil))
  (pss_cons (ps_while PassesOwn.never (pt_cmpR op_lt (pv 2) (pe_callB call_len_seq (by rfl) W.n_len (by decide +kernel) (pa_cons (pv 0) pa_nil)) (nomark _)) (pss_cons (ps_expr (pe_bm PySem.F.plainAttrs_list PySem.F.slot_list_append PySem.F.type_list_append mt_append (pv 3) (pa_cons (pv 2) pa_nil)))
  (pss_cons (ps_set (i := 4) sc_first_words.nd rfl (.inl rfl) (pe_ix ix_list (pv 0) (pv 2) (fun _ _ => rfl)))
  (pss_cons (ps_aug (i := 2) sc_first_words.nd rfl (.inl rfl) pe_int ip_add)
  (pss_one (ps_while PassesOwn.never (PW.pt (pw_and (pt_cmpR op_lt (pv 2) (pe_callB call_len_seq (by rfl) W.n_len (by decide +kernel) (pa_cons (pv 0) pa_nil)) (nomark _)) (pw_and1 (pt_cmpR op_le (pe_op op_add (pe_op op_add (pv 4) pe_int) (pe_ix ix_list (pv 0) (pv 2) (fun _ _ => rfl))) (pv 1) (nomark _))))) (pss_cons (ps_aug (i := 4) sc_first_words.nd rfl (.inl rfl) (pe_op op_add pe_int (pe_ix ix_list (pv 0) (pv 2) (fun _ _ => rfl))) ip_add)
  (pss_one (ps_aug (i := 2) sc_first_words.nd rfl (.inl rfl) pe_int ip_add)))))))))
  (pss_one (ps_ret (pv 3))))), ?_⟩
  obtain ⟨a, ns, w, k, rfl, hS, hl, hk, q⟩ := h
  have hz : sizeLine = 16777216 := by decide
  refine sq_set ⟨Nat.zero_le _, fun p np => ?_⟩
  refine ⟨fun m σ H' => ∃ (j : Nat) (f : List Int) (j4 : Option V), σ = [some (.ref a), some (.int w), some (.int (j : Int)), some (.ref p), j4] ∧ m = ns.length - j ∧ f ++ firstsOf ns w j = firstsOf ns w k.toNat ∧ Same H H' ∧ IL H' p f,
    ⟨_, k.toNat, [], none, (by rw [Int.toNat_of_nonneg hk]; rfl), rfl, rfl, same_new np, upd_same⟩, ?_⟩
  rintro m σ H1 ⟨j, f, j4, rfl, rfl, hf, s1, e1⟩
  refine ⟨_, rfl, _, rfl, a, _, rfl, .inl (s1.seq hS), _, _, rfl, rfl, _, rfl, ?_⟩
  rw [List.length_map]
  by_cases c : (j : Int) < ns.length
  · rw [decide_eq_true c]
    obtain ⟨z, hz1⟩ : ∃ z, ns[j]? = some z := ⟨_, List.getElem?_eq_getElem (by omega)⟩
    have hdj := drop_get hz1
    have hfj : firstsOf ns w j = (j : Int) :: firstsGo w (j + 1) z (ns.drop (j + 1)) := by
      unfold firstsOf
      rw [hdj]
    have hflen : f.length < sizeLine := by
      have h1 := congrArg List.length hf
      have h2 := firstsOf_len ns w k.toNat
      rw [List.length_append] at h1
      omega
    refine iteT ⟨fun σ2 H2 => ∃ (j' : Nat) (f' : List Int) (j4' : Option V), σ2 = [some (.ref a), some (.int w), some (.int (j' : Int)), some (.ref p), j4'] ∧ j < j' ∧ f' ++ firstsOf ns w j' = firstsOf ns w k.toNat ∧ Same H H2 ∧ IL H2 p f', ?_, ?_⟩
    · rintro σ2 H2 ⟨j', f', j4', rfl, h1, h2, h3, h4⟩
      exact ⟨ns.length - j', by omega, j', f', j4', rfl, rfl, h2, h3, h4⟩
    refine sq_drop ⟨_, rfl, .inl ⟨rfl, _, e1.seq⟩, _, rfl, p, _, _, rfl, rfl, e1, by rw [List.length_map]; exact hflen, ?_⟩
    have s2 : Same H (upd H1 p (.lst (iV f ++ [.int j]))) := same_mut s1 np
    have e2 : IL (upd H1 p (.lst (iV f ++ [.int j]))) p (f ++ [(j : Int)]) := by
      show upd _ _ _ _ = _
      rw [upd_same, ints_push]
    generalize (upd H1 p (.lst (iV f ++ [.int j]))) = H2 at s2 e2
    refine sq_set ⟨_, rfl, _, rfl, a, _, _, _, rfl, rfl, s2.seq hS, atI_int (atI_nat hz1), ?_⟩
    refine ⟨_, rfl, _, _, rfl, rfl, ?_⟩
    refine ⟨fun m σ H' => ∃ (j' : Nat) (c' : Int), σ = [some (.ref a), some (.int w), some (.int (j' : Int)), some (.ref p), some (.int c')] ∧ m = ns.length - j' ∧ j < j' ∧ f ++ [(j : Int)] ++ firstsGo w j' c' (ns.drop j') = firstsOf ns w k.toNat ∧ Same H H' ∧ IL H' p (f ++ [(j : Int)]),
      ⟨_, j + 1, z, rfl, rfl, by omega, ?_, s2, e2⟩, ?_⟩
    · rw [← hf, hfj, List.append_assoc]
      rfl
    rintro m σ H3 ⟨j', c', rfl, rfl, hj, hf', s3, e3⟩
    refine cutT (fun b H' => H' = H3 ∧ (b = true → ∃ n, ns[j']? = some n ∧ c' + 1 + n ≤ w) ∧ (b = false → firstsGo w j' c' (ns.drop j') = firstsOf ns w j')) (fun Q' k' => ?_) ?_
    · refine ⟨_, rfl, _, rfl, a, _, rfl, .inl (s3.seq hS), _, _, rfl, rfl, _, rfl, ?_⟩
      rw [List.length_map]
      by_cases c2 : (j' : Int) < ns.length
      · rw [decide_eq_true c2]
        obtain ⟨n, hn⟩ : ∃ n, ns[j']? = some n := ⟨_, List.getElem?_eq_getElem (by omega)⟩
        refine iteT ⟨_, rfl, _, _, rfl, rfl, _, rfl, _, rfl, a, _, _, _, rfl, rfl, s3.seq hS, atI_int (atI_nat hn), _, _, rfl, rfl, _, rfl, _, _, rfl, rfl, _, rfl, ?_⟩
        refine k' _ _ ⟨rfl, fun h => ⟨n, hn, of_decide_eq_true h⟩, fun h => ?_⟩
        have h' := of_decide_eq_false h
        unfold firstsOf
        rw [drop_get hn]
        show firstsGo w j' c' (n :: ns.drop (j' + 1)) = _
        rw [firstsGo, if_neg h']
      · rw [decide_eq_false c2]
        refine iteF (k' _ _ ⟨rfl, (fun h => by cases h), fun _ => ?_⟩)
        have hd : ns.drop j' = [] := List.drop_eq_nil_of_le (by omega)
        unfold firstsOf
        rw [hd]
        rfl
    · rintro b H' ⟨rfl, hb1, hb2⟩
      cases b with
      | true =>
        obtain ⟨n, hn, hle⟩ := hb1 rfl
        refine iteT ⟨fun σ2 H2 => σ2 = [some (.ref a), some (.int w), some (.int ((j' + 1 : Nat) : Int)), some (.ref p), some (.int (c' + (1 + n)))] ∧ H2 = H', ?_, ?_⟩
        · rintro σ2 H2 ⟨rfl, rfl⟩
          have hlt : j' < ns.length := (List.getElem?_eq_some_iff.mp hn).1
          refine ⟨ns.length - (j' + 1), by omega, j' + 1, c' + (1 + n), rfl, rfl, by omega, ?_, s3, e3⟩
          rw [← hf', drop_get hn]
          rw [firstsGo, if_pos hle]
          have : c' + (1 + n) = c' + 1 + n := by omega
          rw [this]
        · refine ⟨_, rfl, _, rfl, _, rfl, a, _, _, _, rfl, rfl, s3.seq hS, atI_int (atI_nat hn), _, _, rfl, rfl, _, _, rfl, rfl, ?_⟩
          exact ⟨_, rfl, _, _, rfl, rfl, rfl, rfl⟩
      | false =>
        refine iteF ⟨j', f ++ [(j : Int)], _, rfl, hj, ?_, s3, e3⟩
        rw [← hb2 rfl]
        exact hf'
  · rw [decide_eq_false c]
    have hd : firstsOf ns w j = [] := by
      unfold firstsOf
      rw [List.drop_eq_nil_of_le (by omega)]
    rw [hd, List.append_nil] at hf
    refine iteF ⟨_, rfl, q p H1 np s1 ?_⟩
    rw [← hf]
    exact e1
theorem ok_meeting_word {f : Addr} {fd : FuncData} (F : FnP K "meeting_word" (top 27) [] f fd) (W : Wd K mg) (c_first_words : Cal P w K mg base CX0 1 "first_words" ["text", "width", "word"] [] (sp_first_words K)) (c_require_word : Cal P w K mg base (L2.CX P w) 2 "require_word" ["text", "word"] [] (sp_require_word K)) (c_require_width : Cal P w K mg base (L2.CX P w) 3 "require_width" ["width"] [] (sp_require_width K)) (c_require_text : Cal P w K mg base (L2.CX P w) 4 "require_text" ["text"] [] (sp_require_text K)) : FnOk P w K mg base (L2.CX P w) 5 f fd ["text", "width", "first", "second"] (sp_meeting_word K) := by
  refine FunD.ok F sc_meeting_word (fun vs H Q E h => ?len) (fun cdv A outer s H vs Q E hr h => ?_)
  case len =>
    obtain ⟨v, o, wv, wo, xv, xo, yv, yo, rfl, _⟩ := h
    rfl
  refine ⟨_, (pss_cons (ps_expr (pe_cal c_require_text (hr.mono (by decide)) (passes_call (takes_of rfl rfl rfl rfl) (fun _ _ _ _ h => h)) (pa_cons (pv 0) pa_nil)))
  (pss_cons (ps_expr (pe_cal c_require_width (hr.mono (by decide)) (passes_call (takes_of rfl rfl rfl rfl) (fun _ _ _ _ h => h)) (pa_cons (pv 1) pa_nil)))
  (pss_cons (ps_expr (pe_cal c_require_word (hr.mono (by decide)) (passes_call (takes_of rfl rfl rfl rfl) (fun _ _ _ _ h => h)) (pa_cons (pv 0) (pa_cons (pv 2) pa_nil))))
  (pss_cons (ps_expr (pe_cal c_require_word (hr.mono (by decide)) (passes_call (takes_of rfl rfl rfl rfl) (fun _ _ _ _ h => h)) (pa_cons (pv 0) (pa_cons (pv 3) pa_nil))))
  (pss_cons (ps_set (i := 4) sc_meeting_word.nd rfl (.inr rfl) (pe_cal c_first_words (hr.mono (by decide)) pass0 (pa_cons (pv 0) (pa_cons (pv 1) (pa_cons (pv 3) pa_nil)))))
  (pss_cons (ps_setLc (i := 5) (own := [("word", 6)]) (g := (gName 6)) (by rfl) sc_meeting_word.nd rfl rfl (sw_true rfl rfl rfl (by decide +kernel)) (pi_list (pe_cal c_first_words (hr.mono (by decide)) pass0 (pa_cons (pv 0) (pa_cons (pv 1) (pa_cons (pv 2) pa_nil))))) (blkOk_by (own := [("word", 6)]) (N := ["text", "width", "first", "second", "others", "common", "word"]) (sc := defScope (top 27)) (by decide +kernel)) (fun _ _ _ _ _ => (pg_name (i := 6) sc_meeting_word.nd rfl (Or.inl rfl))) (fun _ _ _ _ _ => pts_one (pt_cmpR (kIn (K := K) rfl) (pv 6) (pv 4) (by rfl))) (fun _ _ _ _ _ => (pv 6)))
  (pss_one (ps_ret (pe_ifExp (pt_cmpR (op_neD hr.units) (pv 5) (pe_lst pa_nil) (nomark _)) (pe_ix ix_list (pv 5) pe_int (fun _ _ => rfl)) pe_non))))))))), ?_⟩
  obtain ⟨v, o, wv, wo, xv, xo, yv, yo, rfl, hv, hz, hw, hx, hy, q, qe, qw⟩ := h
  have hsz : sizeLine = 16777216 := by decide
  refine ⟨_, rfl, v, o, rfl, hv, hz, fun c H1 s1 => ?_, qe⟩
  refine ⟨_, rfl, wv, wo, rfl, hw _ s1, fun c2 => ?_, fun c2 => qw c c2 H1 s1⟩
  obtain ⟨a, ns, w, rfl, rfl, hS, ht, q1, q2⟩ := q c c2
  have hl := ht.len
  refine ⟨_, rfl, _, rfl, a, ns, xv, xo, rfl, s1.seq hS, hx _ s1, fun c3 => ?_, fun c3 => q2 (by rw [c3]; rfl) H1 s1⟩
  refine ⟨_, rfl, _, rfl, a, ns, yv, yo, rfl, s1.seq hS, hy _ s1, fun c4 => ?_, fun c4 => q2 (by rw [c4]; simp) H1 s1⟩
  obtain ⟨i, j, rfl, rfl, q3⟩ := q1 c3 c4
  have hi : 0 ≤ i ∧ i < ns.length := by
    simp only [isWord, isIntV, Bool.and_eq_true, decide_eq_true_eq] at c3
    omega
  have hj : 0 ≤ j ∧ j < ns.length := by
    simp only [isWord, isIntV, Bool.and_eq_true, decide_eq_true_eq] at c4
    omega
  refine ⟨_, rfl, _, rfl, _, rfl, a, ns, w, j, rfl, s1.seq hS, by omega, hj.1, fun p2 H2 n2 s2 e2 => ?_⟩
  refine ⟨_, rfl, _, rfl, _, rfl, a, ns, w, i, rfl, (s1.trans s2).seq hS, by omega, hi.1, fun p3 H3 n3 s3 e3 => ?_⟩
  have hle := firstsOf_len ns w i.toNat
  refine ⟨p3, rfl, ⟨_, e3.seq⟩, fun D nD => ?_⟩
  refine lc_filtI (fun x => decide (x ∈ firstsOf ns w j.toNat)) (by omega) e3.seq nD (fun k z H4 hz1 s4 Q' k' => ?_) (fun z H4 Q' k' => ⟨_, rfl, k' _ (Same.refl _)⟩) (fun H4 s4 e4 => ?_)
  · have e2' : IL H4 p2 (firstsOf ns w j.toNat) := (e2.same s3).same s4
    refine ⟨_, rfl, _, rfl, p2, _, rfl, .inl e2'.seq, rfl, flat_ints _, _, rfl, ?_⟩
    show Q' (inV (.int z) (iV (firstsOf ns w j.toNat))) H4
    rw [inV_ints]
    exact k' _ (Same.refl _)
  · refine gn_go ?_
    dsimp only
    have sA := ((s1.trans s2).trans s3).trans s4
    generalize hco : ((firstsOf ns w i.toNat).filter fun x => decide (x ∈ firstsOf ns w j.toNat)) = co at e4
    have hme : meetOf ns w i.toNat j.toNat = co.head? := by
      rw [← hco]
      rfl
    rw [hme] at q3
    refine ⟨_, rfl, Nat.zero_le _, fun q1 n1 => ⟨_, .list (([] : List Int).map .int), dp_ints (e4.new n1), dp_ints (ns := []) upd_same, shaped_ints _, shaped_ints _, _, rfl, ?_⟩⟩
    rw [eqvL]
    cases co with
    | nil =>
      rw [decide_eq_true rfl]
      exact iteF (q3 _ (sA.trans (same_new n1)))
    | cons z r =>
      rw [decide_eq_false (by simp)]
      refine iteT ⟨_, rfl, D, _, _, _, rfl, rfl, (e4.new n1).seq, atI_int (atI_nn (by decide) rfl), ?_⟩
      exact q3 _ (sA.trans (same_new n1))
theorem ok_replace_words {f : Addr} {fd : FuncData} (F : FnP K "replace_words" (top 28) [] f fd) (W : Wd K mg) (c_is_text : Cal P w K mg base CX0 3 "is_text" ["value"] [] (sp_is_text K)) (c_is_integer : Cal P w K mg base CX0 1 "is_integer" ["value", "low", "high"] [] (sp_is_integer K)) (c_require_text : Cal P w K mg base (L2.CX P w) 4 "require_text" ["text"] [] (sp_require_text K)) : FnOk P w K mg base (L2.CX P w) 5 f fd ["text", "first", "count", "words"] (sp_replace_words K) := by
  refine FunD.ok F sc_replace_words (fun vs H Q E h => ?len) (fun cdv A outer s H vs Q E hr h => ?_)
  case len =>
    obtain ⟨v, o, fv, fo, cv, co, wv, wo, rfl, _⟩ := h
    rfl
  refine ⟨_, (pss_cons (ps_expr (pe_cal c_require_text (hr.mono (by decide)) (passes_call (takes_of rfl rfl rfl rfl) (fun _ _ _ _ h => h)) (pa_cons (pv 0) pa_nil)))
  (pss_cons (ps_if (pt_not (pt_val (pe_cal c_is_integer (hr.mono (by decide)) pass0 (pa_cons (pv 1) (pa_cons pe_int (pa_cons (pe_callB call_len_seq (by rfl) W.n_len (by decide +kernel) (pa_cons (pv 0) pa_nil)) pa_nil)))))) (pss_one (ps_raiseT (takes_of rfl rfl rfl rfl) W.x_InvalidIndex)) pss_nil)
  (pss_cons (ps_if (pt_not (pt_val (pe_cal c_is_integer (hr.mono (by decide)) pass0 (pa_cons (pv 2) (pa_cons pe_int (pa_cons (pe_op op_sub (pe_callB call_len_seq (by rfl) W.n_len (by decide +kernel) (pa_cons (pv 0) pa_nil)) (pv 1)) pa_nil)))))) (pss_one (ps_raiseT (takes_of rfl rfl rfl rfl) W.x_InvalidNumber)) pss_nil)
  (pss_cons (ps_if (PW.pt (pw_or (pt_not (pt_val (pe_callB call_isi (by rfl) W.n_isinstance (by decide +kernel) (pa_cons (pv 3) (pa_cons (pe_ty (n := "list") W.n_list (by decide +kernel)) pa_nil))))) (pw_or1 (pt_not (pt_val (pe_cal c_is_text (hr.mono (by decide)) pass0 (pa_cons (pe_op op_cat (pe_op op_cat (pe_slice sl_list (pv 0) po_none (po_some (pv 1))) (pv 3)) (pe_slice sl_list (pv 0) (po_some (pe_op op_add (pv 1) (pv 2))) po_none)) pa_nil))))))) (pss_one (ps_raiseT (takes_of rfl rfl rfl rfl) W.x_InvalidLengths)) pss_nil)
  (pss_one (ps_ret (pe_op op_cat (pe_op op_cat (pe_slice sl_list (pv 0) po_none (po_some (pv 1))) (pv 3)) (pe_slice sl_list (pv 0) (po_some (pe_op op_add (pv 1) (pv 2))) po_none)))))))), ?_⟩
  obtain ⟨v, o, fv, fo, cv, co, wv, wo, rfl, hv, hz, hf, hc, hw, hwl, q, qe⟩ := h
  have hsz : sizeLine = 16777216 := by decide
  refine ⟨_, rfl, v, o, rfl, hv, hz, fun c0 H1 s1 => ?_, qe⟩
  obtain ⟨a, ns, rfl, hS, ht, q1, q2⟩ := q c0
  have hl := ht.len
  refine ⟨_, rfl, _, rfl, a, _, rfl, .inl (s1.seq hS), fv, fo, 0, .int ns.length, by rw [List.length_map]; rfl, hf _ s1, .inr ⟨_, rfl⟩, _, rfl, ?_⟩
  cases c1 : isIntV fv 0 (.int ns.length) with
  | false => exact iteT (q1 c1 H1 s1)
  | true =>
    obtain ⟨f, rfl, hf1, hf2⟩ : ∃ f, fv = .int f ∧ 0 ≤ f ∧ f ≤ ns.length := by
      cases fv <;> simp [isIntV] at c1
      exact ⟨_, rfl, c1.1, c1.2⟩
    obtain ⟨q3, q4⟩ := q2 f rfl c1
    refine iteF ?_
    refine ⟨_, rfl, _, rfl, a, _, rfl, .inl (s1.seq hS), _, rfl, _, _, rfl, rfl, cv, co, 0, .int (ns.length - f), by first | (rw [List.length_map]; rfl) | (dsimp only; rw [List.length_map]; rfl), hc _ s1, .inr ⟨_, rfl⟩, _, rfl, ?_⟩
    cases c2 : isIntV cv 0 (.int (ns.length - f)) with
    | false => exact iteT (q3 c2 H1 s1)
    | true =>
      obtain ⟨c, rfl, hc1, hc2⟩ : ∃ c, cv = .int c ∧ 0 ≤ c ∧ c ≤ ns.length - f := by
        cases cv <;> simp [isIntV] at c2
        exact ⟨_, rfl, c2.1, c2.2⟩
      obtain ⟨q5, q6⟩ := q4 c rfl c2
      refine iteF ?_
      have nol : (∀ ds, wo ≠ some (.list ds)) → replOf ns f.toNat c.toNat wo = none := by
        intro h
        unfold replOf
        split
        · exact (h _ rfl).elim
        · rfl
      have hw1 := hw _ s1
      refine ⟨_, rfl, _, _, _, _, _, rfl, .ty _, hw1.ty, isi_list wo, _, rfl, ?_⟩
      rw [isI_list]
      have isl : (∃ ds, wo = some (.list ds)) ∨ ∀ ds, wo ≠ some (.list ds) := by
        cases wo with
        | none => exact .inr fun ds e => by cases e
        | some d =>
          cases d with
          | list ds => exact .inl ⟨ds, rfl⟩
          | _ => exact .inr fun ds e => by cases e
      rcases isl with ⟨ds, rfl⟩ | hn
      · obtain ⟨hdl, b, xs, rfl, hb, hda⟩ := hwl ds rfl
        have hxl := dpAll_len (hda H (Same.refl _))
        have hsh : SeqAt.shaped (.list ds) = true := by
          cases hw1 with
          | d _ h => exact h
        refine iteF ?_
        refine ⟨_, rfl, _, rfl, _, rfl, a, _, rfl, (s1).seq hS, fun c1_ nc1 => ?_⟩
        have ecut : cutV (iV ns) none (some f) = iV (ns.take f.toNat) := by rw [cutV_map, cutL_to _ _ hf1]
        rw [ecut]
        have ec1 : (upd H1 c1_ (.lst (iV (ns.take f.toNat)))) c1_ = some (.lst (iV (ns.take f.toNat))) := upd_same
        have sc1 : Same H1 (upd H1 c1_ (.lst (iV (ns.take f.toNat)))) := same_new nc1
        generalize (upd H1 c1_ (.lst (iV (ns.take f.toNat)))) = G1 at ec1 sc1
        refine ⟨_, rfl, c1_, b, _, xs, rfl, rfl, ec1, sc1 _ _ ((s1) _ _ hb), by rw [List.length_map, List.length_take]; omega, fun p1 np1 => ?_⟩
        have ep1 : (upd G1 p1 (.lst (iV (ns.take f.toNat) ++ xs))) p1 = some (.lst (iV (ns.take f.toNat) ++ xs)) := upd_same
        have sp1 : Same H1 (upd G1 p1 (.lst (iV (ns.take f.toNat) ++ xs))) := sc1.trans (same_new np1)
        generalize (upd G1 p1 (.lst (iV (ns.take f.toNat) ++ xs))) = G2 at ep1 sp1
        refine ⟨_, rfl, _, rfl, _, rfl, _, _, rfl, rfl, _, rfl, a, _, rfl, ((s1).trans sp1).seq hS, fun c2_ nc2 => ?_⟩
        dsimp only
        have ecut2 : cutV (iV ns) (some (f + c)) none = iV (ns.drop (f.toNat + c.toNat)) := by
          rw [cutV_map, cutL_from _ _ (by omega)]
          congr 2
          omega
        rw [ecut2]
        refine ⟨p1, c2_, _, _, rfl, rfl, at_new ep1 nc2, upd_same, by simp; omega, fun p2 np2 => ?_⟩
        have np := fresh_of sp1 (fresh_of (same_new nc2) np2)
        have s3 : Same H1 (upd (upd G2 c2_ (.lst (iV (ns.drop (f.toNat + c.toNat))))) p2 (.lst (iV (ns.take f.toNat) ++ xs ++ iV (ns.drop (f.toNat + c.toNat))))) := (sp1.trans (same_new nc2)).trans (same_new np2)
        have e3 : (upd (upd G2 c2_ (.lst (iV (ns.drop (f.toNat + c.toNat))))) p2 (.lst (iV (ns.take f.toNat) ++ xs ++ iV (ns.drop (f.toNat + c.toNat))))) p2 = some (.lst (iV (ns.take f.toNat) ++ xs ++ iV (ns.drop (f.toNat + c.toNat)))) := upd_same
        generalize (upd (upd G2 c2_ (.lst (iV (ns.drop (f.toNat + c.toNat))))) p2 (.lst (iV (ns.take f.toNat) ++ xs ++ iV (ns.drop (f.toNat + c.toNat))))) = H3 at s3 e3
        clear np2 nc2 ecut2 sp1 ep1 np1 sc1 ec1 nc1 ecut
        have s13 := s1.trans s3
        have hall : DpAll K H3 (iV (ns.take f.toNat) ++ xs ++ iV (ns.drop (f.toNat + c.toNat))) (replData ns f.toNat c.toNat ds) := DpAll.app (DpAll.app (dpAll_ints _) (hda H3 s13)) (dpAll_ints _)
        refine ⟨.ref p2, some (.list (replData ns f.toNat c.toNat ds)), rfl, .d (.lst (.inl (.inl e3)) hall) (repl_shaped hsh), fun ds' e => ?_, fun H4 s4 => ⟨_, rfl, ?_⟩⟩
        · injection e with e
          injection e with e
          rw [← e]
          unfold replData
          simp
          omega
        cases c5 : areLengths (some (.list (replData ns f.toNat c.toNat ds))) with
        | false =>
          refine iteT (q5 ?_ H4 (s13.trans s4))
          unfold replOf
          dsimp only
          rw [c5]
          rfl
        | true =>
          refine iteF ?_
          have hto : replOf ns f.toNat c.toNat (some (.list ds)) = some ((replData ns f.toNat c.toNat ds).map lenOf) := by
            unfold replOf
            dsimp only
            rw [if_pos c5]
          have ci : (replData ns f.toNat c.toNat ds).all isLen = true := by
            simp only [areLengths, Bool.and_eq_true] at c5
            exact c5.1.2
          have hi := dpAll_lens hall ci
          have s14 := s13.trans s4
          refine nx_go ?_
          dsimp only
          refine ⟨_, rfl, _, rfl, _, rfl, a, _, rfl, (s14).seq hS, fun c1_ nc1 => ?_⟩
          have ecut : cutV (iV ns) none (some f) = iV (ns.take f.toNat) := by rw [cutV_map, cutL_to _ _ hf1]
          rw [ecut]
          have ec1 : (upd H4 c1_ (.lst (iV (ns.take f.toNat)))) c1_ = some (.lst (iV (ns.take f.toNat))) := upd_same
          have sc1 : Same H4 (upd H4 c1_ (.lst (iV (ns.take f.toNat)))) := same_new nc1
          generalize (upd H4 c1_ (.lst (iV (ns.take f.toNat)))) = G1 at ec1 sc1
          refine ⟨_, rfl, c1_, b, _, xs, rfl, rfl, ec1, sc1 _ _ ((s14) _ _ hb), by rw [List.length_map, List.length_take]; omega, fun p1 np1 => ?_⟩
          have ep1 : (upd G1 p1 (.lst (iV (ns.take f.toNat) ++ xs))) p1 = some (.lst (iV (ns.take f.toNat) ++ xs)) := upd_same
          have sp1 : Same H4 (upd G1 p1 (.lst (iV (ns.take f.toNat) ++ xs))) := sc1.trans (same_new np1)
          generalize (upd G1 p1 (.lst (iV (ns.take f.toNat) ++ xs))) = G2 at ep1 sp1
          refine ⟨_, rfl, _, rfl, _, rfl, _, _, rfl, rfl, _, rfl, a, _, rfl, ((s14).trans sp1).seq hS, fun c2_ nc2 => ?_⟩
          dsimp only
          have ecut2 : cutV (iV ns) (some (f + c)) none = iV (ns.drop (f.toNat + c.toNat)) := by
            rw [cutV_map, cutL_from _ _ (by omega)]
            congr 2
            omega
          rw [ecut2]
          refine ⟨p1, c2_, _, _, rfl, rfl, at_new ep1 nc2, upd_same, by simp; omega, fun p5 np5 => ?_⟩
          refine q6 _ hto p5 _ (fresh_of s14 (fresh_of sp1 (fresh_of (same_new nc2) np5))) (s14.trans ((sp1.trans (same_new nc2)).trans (same_new np5))) ?_
          show upd _ _ _ _ = _
          rw [upd_same, hi]
      · have hq := q5 (nol hn) H1 s1
        clear q q1 q2 q3 q4 q5 q6 nol hwl hw
        cases wo with
        | none => exact iteT hq
        | some d => cases d <;> first | exact iteT hq | exact (hn _ rfl).elim
theorem ok_common_count {f : Addr} {fd : FuncData} (F : FnP K "common_count" (top 29) [] f fd) (W : Wd K mg)  : FnOk P w K mg base CX0 1 f fd ["one", "other"] (sp_common_count K) := by
  refine FunD.ok F sc_common_count (fun vs H Q E h => ?len) (fun cdv A outer s H vs Q E hr h => ?_)
  case len =>
    obtain ⟨a, b, xs, ys, rfl, _⟩ := h
    rfl
  refine ⟨_, PSs.nox (pss_cons (ps_set (i := 2) sc_common_count.nd rfl (.inl rfl) pe_int)
  (pss_cons (ps_while PassesOwn.never (PW.pt (pw_and (pt_cmpR op_lt (pv 2) (pe_callB (call_min2 rfl) (by rfl) W.n_min (by decide +kernel) (pa_cons (pe_callB call_len_seq (by rfl) W.n_len (by decide +kernel) (pa_cons (pv 0) pa_nil)) (pa_cons (pe_callB call_len_seq (by rfl) W.n_len (by decide +kernel) (pa_cons (pv 1) pa_nil)) pa_nil))) (nomark _)) (pw_and1 (pt_cmpR op_eq (pe_ix ix_list (pv 0) (pv 2) (fun _ _ => rfl)) (pe_ix ix_list (pv 1) (pv 2) (fun _ _ => rfl)) (nomark _))))) (pss_one (ps_aug (i := 2) sc_common_count.nd rfl (.inl rfl) pe_int ip_add)))
  (pss_one (ps_ret (pv 2))))), ?_⟩
  obtain ⟨a, b, xs, ys, rfl, hA, hB, q⟩ := h
  refine sq_set ?_
  refine ⟨fun m σ H' => ∃ n : Nat, σ = [some (.ref a), some (.ref b), some (.int n)] ∧ m = xs.length - n ∧ H' = H ∧ (∀ i, i < n → ∃ z, xs[i]? = some z ∧ ys[i]? = some z) ∧ n ≤ xs.length ∧ n ≤ ys.length, ⟨_, 0, rfl, rfl, rfl, (fun i hi => by omega), Nat.zero_le _, Nat.zero_le _⟩, ?_⟩
  rintro m σ H' ⟨n, rfl, rfl, rfl, h1, h2, h3⟩
  refine cutT (fun k H2 => H2 = H' ∧ (k = true → ∃ z, xs[n]? = some z ∧ ys[n]? = some z) ∧ (k = false → ∀ x y, xs[n]? = some x → ys[n]? = some y → x ≠ y)) (fun Q' k' => ?_) ?_
  · refine ⟨_, rfl, _, rfl, a, _, rfl, .inl hA, _, rfl, b, _, rfl, .inl hB, _, _, rfl, _, _, rfl, rfl, _, rfl, ?_⟩
    rw [List.length_map, List.length_map]
    by_cases c : (n : Int) < (if (ys.length : Int) < xs.length then (ys.length : Int) else xs.length)
    · rw [decide_eq_true c]
      have hn : n < xs.length ∧ n < ys.length := by
        split at c <;> omega
      obtain ⟨x, hx⟩ : ∃ x, xs[n]? = some x := ⟨_, List.getElem?_eq_getElem hn.1⟩
      obtain ⟨y, hy⟩ : ∃ y, ys[n]? = some y := ⟨_, List.getElem?_eq_getElem hn.2⟩
      refine iteT ⟨_, rfl, _, rfl, a, _, _, _, rfl, rfl, hA, atI_int (atI_nat hx), _, rfl, _, rfl, b, _, _, _, rfl, rfl, hB, atI_int (atI_nat hy), rfl, _, rfl, ?_⟩
      refine k' _ _ ⟨rfl, fun h => ⟨x, hx, ?_⟩, fun h u v hu hv => ?_⟩
      · have := of_decide_eq_true h
        injection this with this
        rw [this]
        exact hy
      · have := of_decide_eq_false h
        rw [hx] at hu
        rw [hy] at hv
        cases hu
        cases hv
        intro e
        exact this (by rw [e])
    · rw [decide_eq_false c]
      refine iteF (k' _ _ ⟨rfl, (fun h => by cases h), fun _ u v hu hv => ?_⟩)
      have g1 := (List.getElem?_eq_some_iff.mp hu).1
      have g2 := (List.getElem?_eq_some_iff.mp hv).1
      exact absurd (by split <;> omega) c
  rintro k H2 ⟨rfl, k1, k2⟩
  cases k with
  | true =>
    obtain ⟨z, hx, hy⟩ := k1 rfl
    have g1 := (List.getElem?_eq_some_iff.mp hx).1
    have g2 := (List.getElem?_eq_some_iff.mp hy).1
    refine iteT ⟨fun σ2 H3 => σ2 = [some (.ref a), some (.ref b), some (.int ((n + 1 : Nat) : Int))] ∧ H3 = H2, ?_, ?_⟩
    · rintro σ2 H3 ⟨rfl, rfl⟩
      refine ⟨xs.length - (n + 1), by omega, n + 1, rfl, rfl, rfl, fun i hi => ?_, by omega, by omega⟩
      rcases (by omega : i < n ∨ i = n) with h | rfl
      · exact h1 i h
      · exact ⟨z, hx, hy⟩
    · exact ⟨_, rfl, _, _, rfl, rfl, rfl, rfl⟩
  | false =>
    refine iteF ⟨_, rfl, ?_⟩
    rw [← comPre_of h1 (k2 rfl) h2 h3]
    exact q
theorem ok_changed_lines {f : Addr} {fd : FuncData} (F : FnP K "changed_lines" (top 30) [] f fd) (W : Wd K mg) (c_common_count : Cal P w K mg base CX0 1 "common_count" ["one", "other"] [] (sp_common_count K)) (c_wrap_text : Cal P w K mg base (L2.CX P w) 5 "wrap_text" ["text", "width"] [] (sp_wrap_text K)) (c_require_width : Cal P w K mg base (L2.CX P w) 3 "require_width" ["width"] [] (sp_require_width K)) (c_require_text : Cal P w K mg base (L2.CX P w) 4 "require_text" ["text"] [] (sp_require_text K)) : FnOk P w K mg base (L2.CX P w) 6 f fd ["text", "other", "width"] (sp_changed_lines K) := by
  refine FunD.ok F sc_changed_lines (fun vs H Q E h => ?len) (fun cdv A outer s H vs Q E hr h => ?_)
  case len =>
    obtain ⟨v, o, v2, o2, wv, wo, rfl, _⟩ := h
    rfl
  refine ⟨_, (pss_cons (ps_expr (pe_cal c_require_text (hr.mono (by decide)) (passes_call (takes_of rfl rfl rfl rfl) (fun _ _ _ _ h => h)) (pa_cons (pv 0) pa_nil)))
  (pss_cons (ps_expr (pe_cal c_require_text (hr.mono (by decide)) (passes_call (takes_of rfl rfl rfl rfl) (fun _ _ _ _ h => h)) (pa_cons (pv 1) pa_nil)))
  (pss_cons (ps_expr (pe_cal c_require_width (hr.mono (by decide)) (passes_call (takes_of rfl rfl rfl rfl) (fun _ _ _ _ h => h)) (pa_cons (pv 2) pa_nil)))
  (pss_cons (ps_par (i := 3) (j := 4) (by rfl) sc_changed_lines.nd rfl rfl (by decide) rfl rfl (pa_cons (pe_cal c_wrap_text (hr.mono (by decide)) (passes_call (takes_of rfl rfl rfl rfl) (fun _ _ _ _ h => h)) (pa_cons (pv 0) (pa_cons (pv 2) pa_nil))) (pa_cons (pe_cal c_wrap_text (hr.mono (by decide)) (passes_call (takes_of rfl rfl rfl rfl) (fun _ _ _ _ h => h)) (pa_cons (pv 1) (pa_cons (pv 2) pa_nil))) pa_nil)) (by rfl))
  (pss_cons (ps_set (i := 5) sc_changed_lines.nd rfl (.inl rfl) (pe_cal c_common_count (hr.mono (by decide)) pass0 (pa_cons (pv 3) (pa_cons (pv 4) pa_nil))))
  (pss_one (ps_ret (pe_tup (pa_cons (pv 5) (pa_cons (pe_cal c_common_count (hr.mono (by decide)) pass0 (pa_cons (pe_revL (pe_slice sl_list (pv 3) (po_some (pv 5)) po_none)) (pa_cons (pe_revL (pe_slice sl_list (pv 4) (po_some (pv 5)) po_none)) pa_nil))) pa_nil)))))))))), ?_⟩
  obtain ⟨v, o, v2, o2, wv, wo, rfl, hv, hz, hv2, hz2, hw, q, qe, qe2, qw⟩ := h
  refine ⟨_, rfl, v, o, rfl, hv, hz, fun c H1 s1 => ?_, qe⟩
  refine ⟨_, rfl, v2, o2, rfl, hv2 _ s1, hz2, fun c2 H2 s2 => ?_, fun c2 H2 s2 => qe2 c c2 H2 (s1.trans s2)⟩
  have s12 := s1.trans s2
  refine ⟨_, rfl, wv, wo, rfl, hw _ s12, fun c3 => ?_, fun c3 => qw c c2 c3 H2 s12⟩
  obtain ⟨a, ns, b, ms, w, rfl, rfl, rfl, hS, ht, hB, hm, q'⟩ := q c c2 c3
  have hwd : 1 ≤ w ∧ w ≤ 1000 := by
    simpa [isWidth, isIntV] using c3
  refine ⟨_, rfl, _, rfl, wrap_text_ok (s12.seq hS) ht hwd.1 hwd.2 fun x1 H3 n1 s3 e1 => ?_⟩
  refine ⟨_, rfl, _, rfl, wrap_text_ok ((s12.trans s3).seq hB) hm hwd.1 hwd.2 fun x2 H4 n2 s4 e2 => ⟨_, _, rfl, ?_⟩⟩
  have e14 := e1.same s4
  have s14 := (s12.trans s3).trans s4
  dsimp only
  refine sq_set ⟨_, rfl, _, rfl, x1, x2, _, _, rfl, e14.seq, e2.seq, ?_⟩
  generalize hk : comPre (lawWrap ns w) (lawWrap ms w) = k
  refine ⟨_, rfl, _, rfl, _, rfl, _, rfl, x1, _, rfl, e14.seq, fun c1 nc1 => ?_⟩
  have ecut1 : cutV (iV (lawWrap ns w)) (some (k : Int)) none = iV ((lawWrap ns w).drop k) := by
    rw [cutV_map, cutL_from _ _ (by omega)]
    rfl
  rw [ecut1]
  have ec1 : IL (upd H4 c1 (.lst (iV ((lawWrap ns w).drop k)))) c1 _ := upd_same
  have sc1 := same_new (u := .lst (iV ((lawWrap ns w).drop k))) nc1
  generalize (upd H4 c1 (.lst (iV ((lawWrap ns w).drop k)))) = G1 at ec1 sc1
  refine ⟨c1, _, rfl, ec1.seq, fun c2_ nc2 => ?_⟩
  have ec2 : IL (upd G1 c2_ (.lst (iV ((lawWrap ns w).drop k)).reverse)) c2_ ((lawWrap ns w).drop k).reverse := by
    show upd _ _ _ _ = _
    rw [upd_same, rev_ints]
  have sc2 := sc1.trans (same_new (u := .lst (iV ((lawWrap ns w).drop k)).reverse) nc2)
  generalize (upd G1 c2_ (.lst (iV ((lawWrap ns w).drop k)).reverse)) = G2 at ec2 sc2
  refine ⟨_, rfl, _, rfl, _, rfl, x2, _, rfl, (e2.same sc2).seq, fun c3_ nc3 => ?_⟩
  have ecut3 : cutV (iV (lawWrap ms w)) (some (k : Int)) none = iV ((lawWrap ms w).drop k) := by
    rw [cutV_map, cutL_from _ _ (by omega)]
    rfl
  rw [ecut3]
  have ec3 : IL (upd G2 c3_ (.lst (iV ((lawWrap ms w).drop k)))) c3_ _ := upd_same
  have sc3 := same_new (u := .lst (iV ((lawWrap ms w).drop k))) nc3
  generalize (upd G2 c3_ (.lst (iV ((lawWrap ms w).drop k)))) = G3 at ec3 sc3
  refine ⟨c3_, _, rfl, ec3.seq, fun c4 nc4 => ?_⟩
  have ec4 : IL (upd G3 c4 (.lst (iV ((lawWrap ms w).drop k)).reverse)) c4 ((lawWrap ms w).drop k).reverse := by
    show upd _ _ _ _ = _
    rw [upd_same, rev_ints]
  have sc4 := sc3.trans (same_new (u := .lst (iV ((lawWrap ms w).drop k)).reverse) nc4)
  generalize (upd G3 c4 (.lst (iV ((lawWrap ms w).drop k)).reverse)) = G4 at ec4 sc4
  refine ⟨c2_, c4, _, _, rfl, (ec2.same sc4).seq, ec4.seq, (by show 2 ≤ sizeLine; decide), fun t nt => ?_⟩
  have sG := (s14.trans sc2).trans sc4
  refine q' t _ (fresh_of sG nt) (sG.trans (same_new nt)) ?_
  rw [upd_same]
  unfold chgOf
  rw [hk]
theorem ok__law_deck {f : Addr} {fd : FuncData} (F : FnP K "_law_deck" (top 32) [] f fd) (W : Wd K mg)  : FnOk P w K mg base CX0 1 f fd ["script"] (sp__law_deck K) := by
  refine FunD.ok F sc__law_deck (fun vs H Q E h => ?len) (fun cdv A outer s H vs Q E hr h => ?_)
  case len =>
    obtain ⟨a, ns, rfl, _⟩ := h
    rfl
  refine ⟨_, PSs.nox (pss_cons (ps_set (i := 1) sc__law_deck.nd rfl (.inl rfl) (pe_lst pa_nil))
  (pss_cons (ps_for PassesOwn.never rfl (pi_range1 (by rfl) W.n_range (pa_cons (pe_callB (call_max2 rfl) (by rfl) W.n_max (by decide +kernel) (pa_cons pe_int (pa_cons (pe_callB (call_min2 rfl) (by rfl) W.n_min (by decide +kernel) (pa_cons pe_int (pa_cons (pe_callB call_len_seq (by rfl) W.n_len (by decide +kernel) (pa_cons (pv 0) pa_nil)) pa_nil))) pa_nil))) pa_nil)) (pg_name (i := 2) sc__law_deck.nd rfl (Or.inl rfl))
  (pss_cons (ps_set (i := 3) sc__law_deck.nd rfl (.inl rfl) pe_int)
  (pss_cons (ps_if (pt_cmpR op_lt (pv 2) (pe_callB call_len_seq (by rfl) W.n_len (by decide +kernel) (pa_cons (pv 0) pa_nil)) (nomark _)) (pss_one (ps_set (i := 3) sc__law_deck.nd rfl (.inl rfl) (pe_ix ix_list (pv 0) (pv 2) (fun _ _ => rfl)))) pss_nil)
  (pss_one (ps_expr (pe_bm PySem.F.plainAttrs_list PySem.F.slot_list_append PySem.F.type_list_append mt_append (pv 1) (pa_cons (pe_lst (pa_cons (pv 3) (pa_cons (pe_callTy call_int1 (by rfl) W.n_int (by decide +kernel) (pa_cons (pe_cmpR op_ge (pv 3) (pe_op op_powW pe_int pe_int) (nomark _)) pa_nil)) (pa_cons (pe_op op_mulW pe_int (pv 2)) pa_nil)))) pa_nil)))))))
  (pss_one (ps_ret (pe_lst (pa_cons (pv 1) (pa_cons pe_int pa_nil))))))), ?_⟩
  obtain ⟨a, ns, rfl, hS, hl, q⟩ := h
  have hz : sizeLine = 16777216 := by decide
  refine sq_set ⟨Nat.zero_le _, fun p np => ?_⟩
  refine ⟨_, rfl, a, _, rfl, .inl ((same_new np).seq hS), _, _, rfl, _, _, rfl, ?_⟩
  rw [List.length_map]
  generalize hN : (if (if (ns.length : Int) < 63 then (ns.length : Int) else 63) > 1 then (if (ns.length : Int) < 63 then (ns.length : Int) else 63) else 1) = N
  have hN6 : 1 ≤ N ∧ N ≤ 63 := by
    rw [← hN]
    constructor
    · split <;> omega
    · split
      · split <;> omega
      · omega
  refine ⟨N, rfl, by omega, by omega, ?_⟩
  refine for_range (lo := 0) (n := N.toNat) (fun i σ H' => ∃ j1 j2 qs, σ = [some (.ref a), some (.ref p), j1, j2] ∧ Same H H' ∧ H' p = some (.lst (qs.map V.ref)) ∧ qs.length = i ∧ qs.Nodup ∧ p ∉ qs ∧ (∀ b ∈ qs, H b = none) ∧ ∀ b ∈ qs, Pool H' 0 b)
    ⟨_, _, [], rfl, same_new np, upd_same, rfl, .nil, (by simp), (fun b hb => by cases hb), fun b hb => by cases hb⟩ ?_ ?_
  · rintro i σ H1 hi ⟨j1, j2, qs, rfl, s1, e1, hql, hqn, hpq, hqf, hqp⟩
    refine sq_set ?_
    refine cutN (fun σ' H' => ∃ c : Int, H' = H1 ∧ σ' = [some (.ref a), some (.ref p), some (.int (0 + (i : Int))), some (.int c)]) (fun N' k' => ?_) ?_
    · refine ⟨_, rfl, _, rfl, a, _, rfl, .inl (s1.seq hS), _, _, rfl, rfl, _, rfl, ?_⟩
      rw [List.length_map]
      by_cases c : 0 + (i : Int) < (ns.length : Int)
      · rw [decide_eq_true c]
        refine iteT ?_
        obtain ⟨z, hz1⟩ : ∃ z, ns[(0 + (i : Int)).toNat]? = some z := ⟨_, List.getElem?_eq_getElem (by omega)⟩
        exact ⟨_, rfl, _, rfl, a, _, _, _, rfl, rfl, s1.seq hS, atI_int (atI_nn (by omega) hz1), k' _ _ ⟨z, rfl, rfl⟩⟩
      · rw [decide_eq_false c]
        exact iteF (k' _ _ ⟨0, rfl, rfl⟩)
    rintro σ' H' ⟨c, rfl, rfl⟩
    refine ⟨_, rfl, .inl ⟨rfl, _, .inl (.inl e1)⟩, ?_⟩
    refine ⟨_, rfl, _, rfl, _, _, rfl, rfl, ⟨by decide, by decide, by decide⟩, _, _, rfl, rfl, ?_⟩
    refine .inr ⟨_, rfl, ?_⟩
    refine ⟨_, rfl, _, _, rfl, rfl, ?_, (by show 3 ≤ sizeLine; decide), fun q0 nq => ?_⟩
    · have e10 : (2 : Nat) ^ 10 = 1024 := by decide
      exact wide_mul (i := 31) (j := 0 + (i : Int)) (a := 10) (b := 10) (by decide) (by rw [e10]; omega) (by decide) (by decide) (by decide)
    refine ⟨p, _, _, rfl, rfl, at_new e1 nq, by rw [List.length_map]; omega, ?_⟩
    have npq : p ≠ q0 := ne_of_none e1 nq
    refine ⟨_, _, qs ++ [q0], rfl, same_mut (s1.trans (same_new nq)) np, ?_, by simp [hql], ?_, ?_, ?_, ?_⟩
    · rw [upd_same]
      simp
    · refine List.nodup_append.mpr ⟨hqn, by simp, fun x hx y hy e => ?_⟩
      obtain ⟨_, _, _, e', _⟩ := hqp x hx
      rw [e, List.mem_singleton.mp hy, nq] at e'
      cases e'
    · intro hm
      rcases List.mem_append.mp hm with hm | hm
      · exact hpq hm
      · exact npq (List.mem_singleton.mp hm)
    · intro b hb
      rcases List.mem_append.mp hb with hb | hb
      · exact hqf b hb
      · rw [List.mem_singleton.mp hb]
        exact fresh_of s1 nq
    · intro b hb
      rcases List.mem_append.mp hb with hb | hb
      · obtain ⟨c', f', m', e', r'⟩ := hqp b hb
        have nbp : b ≠ p := fun e => hpq (by rw [← e]; exact hb)
        exact ⟨c', f', m', at_mut (at_new e' nq) nbp, r'⟩
      · rw [List.mem_singleton.mp hb]
        exact ⟨_, _, _, at_mut upd_same npq.symm, by omega, by omega⟩
  rintro σ H' ⟨j1, j2, qs, rfl, s1, e1, hql, hqn, hpq, hqf, hqp⟩
  refine ⟨_, rfl, (by show 2 ≤ sizeLine; decide), fun d nd => ?_⟩
  have hdq : d ∉ qs := by
    intro hm
    obtain ⟨_, _, _, e, _⟩ := hqp d hm
    rw [nd] at e
    cases e
  have hdp : d ≠ p := (ne_of_none e1 nd).symm
  refine q d (p :: qs) _ ?_ (s1.trans (same_new nd)) ⟨⟨p, qs, 0, rfl, upd_same, at_new e1 nd, by decide, by decide, ?_, fun b hb => (hqp b hb).same (same_new nd)⟩, ?_⟩
  · intro x hx
    rcases List.mem_cons.mp hx with rfl | hx
    · exact fresh_of s1 nd
    · rcases List.mem_cons.mp hx with rfl | hx
      · exact np
      · exact hqf x hx
  · rintro rfl
    simp at hql
    omega
  · refine List.nodup_cons.mpr ⟨fun hm => ?_, List.nodup_cons.mpr ⟨hpq, hqn⟩⟩
    rcases List.mem_cons.mp hm with h | h
    · exact hdp h
    · exact hdq h
theorem ok__law_draw {f : Addr} {fd : FuncData} (F : FnP K "_law_draw" (top 33) [] f fd) (W : Wd K mg)  : FnOk P w K mg base CX0 1 f fd ["deck", "many"] (sp__law_draw K) := by
  refine FunD.ok F sc__law_draw (fun vs H Q E h => ?len) (fun cdv A outer s H vs Q E hr h => ?_)
  case len =>
    obtain ⟨a, qs, n, many, rfl, _⟩ := h
    rfl
  refine ⟨_, PSs.nox (pss_cons (ps_set (i := 2) sc__law_draw.nd rfl (.inl rfl) (pe_ix ix_list (pe_ix ix_list (pv 0) pe_int (fun _ _ => rfl)) (pe_op op_modN (pe_ix ix_list (pv 0) pe_int (fun _ _ => rfl)) (pe_callB call_len_seq (by rfl) W.n_len (by decide +kernel) (pa_cons (pe_ix ix_list (pv 0) pe_int (fun _ _ => rfl)) pa_nil))) (fun _ _ => rfl)))
  (pss_cons (ps_asg (pe_op op_add (pe_ix ix_list (pv 0) pe_int (fun _ _ => rfl)) pe_int) (pg_sub (pv 0) pe_int set_list))
  (pss_cons (ps_if (PW.pt (pw_and (pt_cmpR op_eq (pe_ix ix_list (pv 2) pe_int (fun _ _ => rfl)) pe_int (nomark _)) (pw_and1 (pt_cmpR op_gt (pe_ix ix_list (pv 2) pe_int (fun _ _ => rfl)) pe_int (nomark _))))) (pss_cons (ps_set (i := 3) sc__law_draw.nd rfl (.inl rfl) (pe_op op_modN (pe_ix ix_list (pv 2) pe_int (fun _ _ => rfl)) (pv 1)))
  (pss_cons (ps_asg (pe_op op_fdivN (pe_ix ix_list (pv 2) pe_int (fun _ _ => rfl)) (pv 1)) (pg_sub (pv 2) pe_int set_list))
  (pss_one (ps_ret (pv 3))))) pss_nil)
  (pss_cons (ps_asg (pe_op op_add (pe_ix ix_list (pv 2) pe_int (fun _ _ => rfl)) pe_int) (pg_sub (pv 2) pe_int set_list))
  (pss_cons (ps_set (i := 4) sc__law_draw.nd rfl (.inl rfl) (pe_op op_add (pe_op op_modN (pe_ix ix_list (pv 2) pe_int (fun _ _ => rfl)) pe_int) (pe_op op_mulW pe_int (pe_ix ix_list (pv 2) pe_int (fun _ _ => rfl)))))
  (pss_cons (ps_set (i := 4) sc__law_draw.nd rfl (.inl rfl) (pe_op op_modN (pe_op op_powW (pv 4) pe_int) pe_int))
  (pss_cons (ps_set (i := 4) sc__law_draw.nd rfl (.inl rfl) (pe_op op_modN (pe_op op_powW (pe_op op_add (pv 4) (pe_op op_mulW pe_int (pe_ix ix_list (pv 2) pe_int (fun _ _ => rfl)))) pe_int) pe_int))
  (pss_one (ps_ret (pe_op op_modN (pe_op op_fdivN (pv 4) pe_int) (pv 1))))))))))), ?_⟩
  obtain ⟨a, qs, n, many, rfl, hD, hn, hm, hm2, q⟩ := h
  obtain ⟨p, ps, t, rfl, ea, ep, t0, t1, hne, hpools⟩ := hD.ex
  have sA : SqL K H a [.ref p, .int t] := .inl (.inl ea)
  have sP : SqL K H p (ps.map V.ref) := .inl (.inl ep)
  have hql : 0 < ps.length := List.length_pos_iff.mpr hne
  obtain ⟨g1, g2⟩ := fmod_rng t (ps.map V.ref).length (by rw [List.length_map]; omega)
  generalize hr0 : t.fmod ((ps.map V.ref).length : Int) = r0 at g1 g2
  rw [List.length_map] at g2
  obtain ⟨b, hb⟩ : ∃ b, ps[r0.toNat]? = some b := ⟨_, List.getElem?_eq_getElem (by omega)⟩
  have hbm := List.mem_of_getElem? hb
  have hbq : b ∈ a :: p :: ps := List.mem_cons_of_mem _ (List.mem_cons_of_mem _ hbm)
  have hb1 : atI (ps.map V.ref) r0 = some (.ref b) := atI_nn g1 (by rw [List.getElem?_map, hb]; rfl)
  refine sq_set ?_
  refine ⟨_, rfl, a, _, _, _, rfl, rfl, sA, (rfl : atI [V.ref p, V.int t] 0 = some (V.ref p)), ?_⟩
  refine ⟨_, rfl, a, _, _, _, rfl, rfl, sA, (rfl : atI [V.ref p, V.int t] 1 = some (V.int t)), ?_⟩
  refine ⟨_, rfl, a, _, _, _, rfl, rfl, sA, (rfl : atI [V.ref p, V.int t] 0 = some (V.ref p)), p, _, rfl, .inl sP, ?_⟩
  refine ⟨_, _, rfl, rfl, (by rw [List.length_map]; omega), ?_⟩
  refine ⟨p, _, _, _, rfl, rfl, sP, (by rw [hr0]; exact hb1), ?_⟩
  -- deck[1] = deck[1] + 1
  refine ⟨_, rfl, a, _, _, _, rfl, rfl, sA, (rfl : atI [V.ref p, V.int t] 1 = some (V.int t)), _, _, rfl, rfl, ?_⟩
  refine ⟨_, rfl, a, _, _, 1, rfl, rfl, ea, rfl, ?_⟩
  obtain ⟨c, f, m, eb, m0, m1⟩ := hpools b hbm
  have hba : b ≠ a := fun e => (List.nodup_cons.mp hD.nd).1 (by rw [← e]; exact List.mem_cons_of_mem _ hbm)
  have eb1 : (upd H a (.lst [.ref p, .int (t + 1)])) b = some (.lst [.int c, .int f, .int m]) := at_mut eb hba
  have s1 : SameS (a :: p :: ps) H (upd H a (.lst [.ref p, .int (t + 1)])) := SameS.upd (List.mem_cons_self ..)
  have hdr : ∀ c' f' m' : Int, 0 ≤ m' → m' ≤ 2000 + (n + 1 : Nat) → Deck (upd (upd H a (.lst [.ref p, .int (t + 1)])) b (.lst [.int c', .int f', .int m'])) a (p :: ps) (n + 1) := fun c' f' m' h1 h2 => hD.draw ea hbm h1 h2
  have s2 : ∀ o, SameS (a :: p :: ps) H (upd (upd H a (.lst [.ref p, .int (t + 1)])) b o) := fun o => s1.trans (SameS.upd hbq)
  dsimp only
  rw [show ([V.ref p, V.int t].set 1 (V.int (t + 1))) = [V.ref p, V.int (t + 1)] from rfl]
  generalize (upd H a (.lst [.ref p, .int (t + 1)])) = H1 at eb1 s1 hdr s2
  have sB : SqL K H1 b [.int c, .int f, .int m] := .inl (.inl eb1)
  obtain ⟨r1, r2⟩ := fmod_rng c many (by omega)
  refine sq_if ?_
  refine cutT (fun k H' => H' = H1 ∧ (k = true → 0 < c)) (fun Q' k' => ?_) ?_
  · refine ⟨_, rfl, b, _, _, _, rfl, rfl, sB, (rfl : atI [V.int c, V.int f, V.int m] 1 = some (V.int f)), rfl, _, rfl, ?_⟩
    by_cases c1 : V.int f = V.int 1
    · rw [decide_eq_true c1]
      refine iteT ⟨_, rfl, b, _, _, _, rfl, rfl, sB, (rfl : atI [V.int c, V.int f, V.int m] 0 = some (V.int c)), _, _, rfl, rfl, _, rfl, ?_⟩
      exact k' _ _ ⟨rfl, fun h => of_decide_eq_true h⟩
    · rw [decide_eq_false c1]
      exact iteF (k' _ _ ⟨rfl, fun h => by cases h⟩)
  rintro k H' ⟨rfl, hk⟩
  cases k with
  | true =>
    refine iteT (sq_set ?_)
    refine ⟨_, rfl, b, _, _, _, rfl, rfl, sB, (rfl : atI [V.int c, V.int f, V.int m] 0 = some (V.int c)), _, rfl, _, _, rfl, rfl, by omega, ?_⟩
    refine ⟨_, rfl, b, _, _, _, rfl, rfl, sB, (rfl : atI [V.int c, V.int f, V.int m] 0 = some (V.int c)), _, rfl, _, _, rfl, rfl, ⟨by omega, by omega⟩, ?_⟩
    refine ⟨_, rfl, b, _, _, 0, rfl, rfl, eb1, rfl, ?_⟩
    refine ⟨_, rfl, ?_⟩
    exact q _ _ r1 r2 (hdr _ _ _ m0 (by omega)) (s2 _)
  | false =>
    refine iteF ?_
    refine ⟨_, rfl, b, _, _, _, rfl, rfl, sB, (rfl : atI [V.int c, V.int f, V.int m] 2 = some (V.int m)), _, _, rfl, rfl, _, rfl, b, _, _, 2, rfl, rfl, eb1, rfl, ?_⟩
    have eb2 : (upd H' b (.lst [.int c, .int f, .int (m + 1)])) b = some (.lst [.int c, .int f, .int (m + 1)]) := upd_same
    have sB2 : SqL K (upd H' b (.lst [.int c, .int f, .int (m + 1)])) b [.int c, .int f, .int (m + 1)] := .inl (.inl eb2)
    have b50 : (2 : Nat) ^ 50 = 1125899906842624 := by decide
    rw [b50] at hn
    have hm3 : (m + 1).natAbs < 2 ^ 60 := by
      have b60 : (2 : Nat) ^ 60 = 1152921504606846976 := by decide
      rw [b60]
      omega
    have hdr2 := hdr c f (m + 1) (by omega) (by omega)
    have s3 := s2 (.lst [.int c, .int f, .int (m + 1)])
    dsimp only
    rw [show ([V.int c, V.int f, V.int m].set 2 (V.int (m + 1))) = [V.int c, V.int f, V.int (m + 1)] from rfl]
    generalize (upd H' b (.lst [.int c, .int f, .int (m + 1)])) = H2 at eb2 sB2 hdr2 s3
    obtain ⟨x10, x11⟩ := fmod_rng c 162259276829213363391578010288127 (by decide)
    refine sq_set ?_
    refine ⟨_, rfl, b, _, _, _, rfl, rfl, sB2, (rfl : atI [V.int c, V.int f, V.int (m + 1)] 0 = some (V.int c)), _, _, rfl, rfl, (show (162259276829213363391578010288127 : Int) ≠ 0 by decide), ?_⟩
    refine ⟨_, rfl, b, _, _, _, rfl, rfl, sB2, (rfl : atI [V.int c, V.int f, V.int (m + 1)] 2 = some (V.int (m + 1))), _, _, rfl, rfl, ?_, _, _, rfl, rfl, ?_⟩
    · exact wide_of (small_of (k := 40) (by decide) (by decide)) (small_of (k := 60) hm3 (by decide))
    generalize c.fmod 162259276829213363391578010288127 = x1 at x10 x11
    dsimp only
    have big : ∀ z : Int, 0 ≤ z → z < 2 ^ 200 → z.natAbs < 2 ^ 1000 := fun z h1 h2 => by
      refine Nat.lt_of_lt_of_le (m := 2 ^ 200) ?_ (Nat.pow_le_pow_right (by decide) (by decide))
      have e1 : (2 : Int) ^ 200 = 1606938044258990275541962092341162602522202993782792835301376 := by decide
      have e2 : (2 : Nat) ^ 200 = 1606938044258990275541962092341162602522202993782792835301376 := by decide
      rw [e1] at h2
      rw [e2]
      omega
    have e200 : (2 : Int) ^ 200 = 1606938044258990275541962092341162602522202993782792835301376 := by decide
    have hx1 : x1 + 2038074743 * (m + 1) < 2 ^ 200 := by
      rw [e200]
      omega
    refine sq_set ?_
    refine ⟨_, rfl, _, _, rfl, rfl, ⟨by decide, by decide, big _ (by omega) hx1⟩, _, _, rfl, rfl, (show (618970019642690137449562111 : Int) ≠ 0 by decide), ?_⟩
    obtain ⟨y10, y11⟩ := fmod_rng ((x1 + 2038074743 * (m + 1)) ^ (3 : Int).toNat) 618970019642690137449562111 (by decide)
    dsimp only
    generalize ((x1 + 2038074743 * (m + 1)) ^ (3 : Int).toNat).fmod 618970019642690137449562111 = x2 at y10 y11
    have hx2 : x2 + 86028121 * (m + 1) < 2 ^ 200 := by
      rw [e200]
      omega
    refine sq_set ?_
    refine ⟨_, rfl, _, rfl, b, _, _, _, rfl, rfl, sB2, (rfl : atI [V.int c, V.int f, V.int (m + 1)] 2 = some (V.int (m + 1))), _, _, rfl, rfl, ?_, _, _, rfl, rfl, _, _, rfl, rfl, ⟨by decide, by decide, big _ (by omega) hx2⟩, _, _, rfl, rfl, (show (162259276829213363391578010288127 : Int) ≠ 0 by decide), ?_⟩
    · exact wide_of (small_of (k := 40) (by decide) (by decide)) (small_of (k := 60) hm3 (by decide))
    dsimp only
    generalize ((x2 + 86028121 * (m + 1)) ^ (3 : Int).toNat).fmod 162259276829213363391578010288127 = x3
    obtain ⟨z1, z2⟩ := fmod_rng (x3.fdiv 262144) many (by omega)
    refine ⟨_, rfl, _, _, rfl, rfl, ⟨by decide, by decide⟩, _, rfl, _, _, rfl, rfl, by omega, ?_⟩
    exact q _ _ z1 z2 hdr2 s3
theorem ok__law_span {f : Addr} {fd : FuncData} (F : FnP K "_law_span" (top 34) [] f fd) (W : Wd K mg)  : FnOk P w K mg base CX0 1 f fd ["sizes"] (sp__law_span K) := by
  refine FunD.ok F sc__law_span (fun vs H Q E h => ?len) (fun cdv A outer s H vs Q E hr h => ?_)
  case len =>
    obtain ⟨a, ns, rfl, _⟩ := h
    rfl
  refine ⟨_, PSs.nox (pss_one (ps_ret (pe_op op_sub (pe_op op_add (pe_callB (cr_sum rfl) (by rfl) W.n_sum (by decide +kernel) (pa_cons (pv 0) pa_nil)) (pe_callB call_len_seq (by rfl) W.n_len (by decide +kernel) (pa_cons (pv 0) pa_nil))) pe_int))), ?_⟩
  obtain ⟨a, ns, rfl, hS, q⟩ := h
  refine rt_ret (op_go ⟨_, rfl, a, _, rfl, hS, _, rfl, a, _, rfl, .inl hS, _, _, rfl, rfl, _, _, rfl, rfl, ?_⟩)
  dsimp only
  rw [List.length_map]
  exact q
theorem ok__law_plan {f : Addr} {fd : FuncData} (F : FnP K "_law_plan" (top 35) [] f fd) (W : Wd K mg) (c__law_draw : Cal P w K mg base CX0 1 "_law_draw" ["deck", "many"] [] (sp__law_draw K)) (c__law_span : Cal P w K mg base CX0 1 "_law_span" ["sizes"] [] (sp__law_span K)) : FnOk P w K mg base CX0 2 f fd ["deck", "most", "longest"] (sp__law_plan K) := by
  refine FunD.ok F sc__law_plan (fun vs H Q E h => ?len) (fun cdv A outer s H vs Q E hr h => ?_)
  case len =>
    obtain ⟨a, qs, n, most, longest, rfl, _⟩ := h
    rfl
  refine ⟨_, PSs.nox (pss_cons (ps_set (i := 3) sc__law_plan.nd rfl (.inl rfl) (pe_lst (pa_cons (pe_op op_add pe_int (pe_cal c__law_draw (hr.mono (by decide)) pass0 (pa_cons (pv 0) (pa_cons (pv 2) pa_nil)))) pa_nil)))
  (pss_cons (ps_for PassesOwn.never rfl (pi_range1 (by rfl) W.n_range (pa_cons (pe_cal c__law_draw (hr.mono (by decide)) pass0 (pa_cons (pv 0) (pa_cons (pv 1) pa_nil))) pa_nil)) (pg_name (i := 4) sc__law_plan.nd rfl (Or.inl rfl))
  (pss_cons (ps_set (i := 5) sc__law_plan.nd rfl (.inl rfl) (pe_op op_add pe_int (pe_cal c__law_draw (hr.mono (by decide)) pass0 (pa_cons (pv 0) (pa_cons (pe_ix ix_list (pe_lst (pa_cons pe_int (pa_cons pe_int (pa_cons (pv 2) pa_nil)))) (pe_cal c__law_draw (hr.mono (by decide)) pass0 (pa_cons (pv 0) (pa_cons pe_int pa_nil))) (fun _ _ => rfl)) pa_nil)))))
  (pss_one (ps_if (pt_cmpR op_le (pe_op op_add (pe_op op_add (pe_cal c__law_span (hr.mono (by decide)) pass0 (pa_cons (pv 3) pa_nil)) pe_int) (pv 5)) pe_int (nomark _)) (pss_one (ps_expr (pe_bm PySem.F.plainAttrs_list PySem.F.slot_list_append PySem.F.type_list_append mt_append (pv 3) (pa_cons (pv 5) pa_nil)))) pss_nil))))
  (pss_one (ps_ret (pv 3))))), ?_⟩
  obtain ⟨a, qs, n, most, longest, rfl, hD, hn, hm1, hm2, hl1, hl2, q⟩ := h
  have e40 : (2 : Nat) ^ 40 = 1099511627776 := by decide
  have e50 : (2 : Nat) ^ 50 = 1125899906842624 := by decide
  have hz : sizeLine = 16777216 := by decide
  rw [e40] at hn
  refine sq_set ⟨_, rfl, _, rfl, a, qs, n, longest, rfl, hD, by omega, hl1, by omega, fun r H1 r0 r1 D1 s1 => ⟨_, _, rfl, rfl, (by show 1 ≤ sizeLine; decide), fun p np => ?_⟩⟩
  have npS : p ∉ a :: qs := D1.fresh np
  refine ⟨_, rfl, _, rfl, a, qs, n + 1, most, rfl, D1.new np, by omega, hm1, by omega, fun r2 H2 r20 r21 D2 s2 => ⟨r2, rfl, by omega, by omega, ?_⟩⟩
  have npH : H p = Option.none := s1.free npS np
  refine for_range (lo := 0) (n := r2.toNat) (fun i σ H' => ∃ ws j4 j5, σ = [some (.ref a), some (.int most), some (.int longest), some (.ref p), j4, j5] ∧ SameS (a :: qs) H H' ∧ Deck H' a qs (n + 2 + 2 * i) ∧ IL H' p ws ∧ Txt' ws)
    ⟨[1 + r], _, _, rfl, (s1.trans (SameS.of (same_new np))).trans s2, D2, s2.il npS upd_same, ?_, ?_, ?_⟩ ?_ ?_
  · simp
  · intro m hm
    rw [List.mem_singleton.mp hm]
    omega
  · simp [total]
    omega
  · rintro i σ H3 hi ⟨ws, j4, j5, rfl, s3, D3, e3, ht⟩
    refine sq_set (op_go ⟨_, rfl, _, rfl, (by show 3 ≤ sizeLine; decide), fun t nt => ⟨_, rfl, a, qs, _, 3, rfl, D3.new nt, by omega, by decide, by decide, fun r4 H4 r40 r41 D4 s4 => ?_⟩⟩)
    have htS : t ∉ a :: qs := D3.fresh nt
    have e4 : H4 t = some (.lst [.int 2, .int 5, .int longest]) := s4.at htS upd_same
    have e34 : IL H4 p ws := s4.il npS (e3.new nt)
    have s34 : SameS (a :: qs) H H4 := (s3.trans (SameS.of (same_new nt))).trans s4
    obtain ⟨mn, hmn, mn1, mn2⟩ : ∃ mn : Int, atI [V.int 2, V.int 5, V.int longest] r4 = some (.int mn) ∧ 1 ≤ mn ∧ mn ≤ 600 := by
      have : r4 = 0 ∨ r4 = 1 ∨ r4 = 2 := by omega
      rcases this with rfl | rfl | rfl
      · exact ⟨2, rfl, by decide, by decide⟩
      · exact ⟨5, rfl, by decide, by decide⟩
      · exact ⟨longest, rfl, hl1, hl2⟩
    refine ⟨t, _, _, _, rfl, rfl, .inl (.inl e4), hmn, a, qs, _, mn, rfl, D4, by omega, mn1, by omega, fun r5 H5 r50 r51 D5 s5 => ⟨_, _, rfl, rfl, ?_⟩⟩
    have e35 : IL H5 p ws := s5.il npS e34
    have s35 := s34.trans s5
    refine ⟨_, rfl, p, ws, rfl, e35.seq, _, _, rfl, rfl, _, rfl, _, _, rfl, rfl, _, _, rfl, rfl, _, rfl, ?_⟩
    by_cases c : total ws + 1 + (1 + r5) ≤ 600
    · rw [decide_eq_true c]
      refine iteT ⟨_, rfl, .inl ⟨rfl, _, e35.seq⟩, _, rfl, p, _, _, rfl, rfl, e35, ?_, ?_⟩
      · rw [List.length_map]
        have := ht.len
        omega
      refine ⟨ws ++ [1 + r5], _, _, rfl, s35.mut npH, ?_, ?_, ?_⟩
      · exact (D5.mut npS).mono (by omega)
      · show upd _ _ _ _ = _
        rw [ints_push, upd_same]
      · obtain ⟨h1, h2, h3⟩ := ht
        refine ⟨by simp, fun m hm => ?_, ?_⟩
        · rcases List.mem_append.mp hm with hm | hm
          · exact h2 m hm
          · rw [List.mem_singleton.mp hm]
            omega
        · unfold total at c ⊢
          rw [List.sum_append, List.length_append]
          simp
          omega
    · rw [decide_eq_false c]
      exact iteF ⟨ws, _, _, rfl, s35, D5.mono (by omega), e35, ht⟩
  rintro σ H' ⟨ws, j4, j5, rfl, s3, D3, e3, ht⟩
  exact ⟨_, rfl, q p ws H' npH s3 (D3.mono (by omega)) e3 ht⟩
theorem ok__law_begins {f : Addr} {fd : FuncData} (F : FnP K "_law_begins" (top 36) [] f fd) (W : Wd K mg)  : FnOk P w K mg base CX0 1 f fd ["plan", "wide", "at"] (sp__law_begins K) := by
  refine FunD.ok F sc__law_begins (fun vs H Q E h => ?len) (fun cdv A outer s H vs Q E hr h => ?_)
  case len =>
    obtain ⟨a, ns, w, k, rfl, _⟩ := h
    rfl
  refine ⟨_, PSs.nox (pss_cons (ps_par (i := 3) (j := 4) (by rfl) sc__law_begins.nd rfl rfl (by decide) rfl rfl (pa_cons (pe_lst pa_nil) (pa_cons pe_int pa_nil)) (by rfl))
  (pss_cons (ps_for PassesOwn.never rfl (pi_range2 (by rfl) W.n_range (pa_cons (pv 2) (pa_cons (pe_callB call_len_seq (by rfl) W.n_len (by decide +kernel) (pa_cons (pv 0) pa_nil)) pa_nil))) (pg_name (i := 5) sc__law_begins.nd rfl (Or.inl rfl))
  (pss_one (ps_if (PW.pt (pw_or (pt_cmpR (op_eqD hr.units) (pv 3) (pe_lst pa_nil) (nomark _)) (pw_or1 (pt_cmpR op_gt (pe_op op_add (pe_op op_add (pv 4) pe_int) (pe_ix ix_list (pv 0) (pv 5) (fun _ _ => rfl))) (pv 1) (nomark _))))) (pss_cons (ps_expr (pe_bm PySem.F.plainAttrs_list PySem.F.slot_list_append PySem.F.type_list_append mt_append (pv 3) (pa_cons (pv 5) pa_nil)))
  (pss_one (ps_set (i := 4) sc__law_begins.nd rfl (.inl rfl) (pe_ix ix_list (pv 0) (pv 5) (fun _ _ => rfl))))) (pss_one (ps_set (i := 4) sc__law_begins.nd rfl (.inl rfl) (pe_op op_add (pe_op op_add (pv 4) pe_int) (pe_ix ix_list (pv 0) (pv 5) (fun _ _ => rfl))))))))
  (pss_one (ps_ret (pv 3))))), ?_⟩
  obtain ⟨a, ns, w, k, rfl, hS, hl, hk, hk2, q⟩ := h
  have hz : sizeLine = 16777216 := by decide
  refine ⟨Nat.zero_le _, fun p np => ⟨_, _, rfl, ?_⟩⟩
  refine ⟨_, rfl, _, rfl, a, _, rfl, .inl ((same_new np).seq hS), k, (ns.length : Int), by rw [List.length_map], by omega, ?_⟩
  obtain ⟨z0, hz0⟩ : ∃ z, ns[k.toNat]? = some z := ⟨_, List.getElem?_eq_getElem (by omega)⟩
  have hN : ((ns.length : Int) - k).toNat = ns.length - k.toNat := by omega
  refine for_range (lo := k) (n := ((ns.length : Int) - k).toNat) (fun i σ H' => ∃ (f : List Int) (h : Int) (j5 : Option V), σ = [some (.ref a), some (.int w), some (.int k), some (.ref p), some (.int h), j5] ∧ Same H H' ∧ IL H' p f ∧
    ((i = 0 ∧ f = []) ∨ (0 < i ∧ f ≠ [] ∧ f ++ firstsGo w (k.toNat + i) h (ns.drop (k.toNat + i)) = firstsOf ns w k.toNat)))
    ⟨[], 0, none, rfl, same_new np, upd_same, .inl ⟨rfl, rfl⟩⟩ ?_ ?_
  · rintro i σ H1 hi ⟨f, h, j5, rfl, s1, e1, hf⟩
    obtain ⟨z, hz1⟩ : ∃ z, ns[k.toNat + i]? = some z := ⟨_, List.getElem?_eq_getElem (by omega)⟩
    have hz2 : ns[(k + (i : Int)).toNat]? = some z := by
      rw [show (k + (i : Int)).toNat = k.toNat + i by omega]
      exact hz1
    have hdj := drop_get hz1
    have hfl : f.length ≤ ns.length := by
      rcases hf with ⟨_, rfl⟩ | ⟨_, _, hf⟩
      · simp
      · have h1 := congrArg List.length hf
        have h2 := firstsOf_len ns w k.toNat
        rw [List.length_append] at h1
        omega
    have ek : ((k.toNat + i : Nat) : Int) = k + (i : Int) := by omega
    refine gn_go ?_
    refine if_go ?_
    refine cutT (fun b H' => Same H1 H' ∧ (b = true → f ++ (k + (i : Int)) :: firstsGo w (k.toNat + i + 1) z (ns.drop (k.toNat + i + 1)) = firstsOf ns w k.toNat) ∧ (b = false → f ≠ [] ∧ f ++ firstsGo w (k.toNat + i + 1) (h + 1 + z) (ns.drop (k.toNat + i + 1)) = firstsOf ns w k.toNat)) (fun Q' k' => ?_) ?_
    · refine ⟨_, rfl, Nat.zero_le _, fun q1 n1 => ⟨_, .list (([] : List Int).map .int), dp_ints (e1.new n1), dp_ints (ns := []) upd_same, shaped_ints _, shaped_ints _, _, rfl, ?_⟩⟩
      rw [eqvL]
      by_cases c : f = []
      · rw [decide_eq_true c]
        refine iteT (k' _ _ ⟨same_new n1, fun _ => ?_, fun h => by cases h⟩)
        rcases hf with ⟨rfl, rfl⟩ | ⟨_, h2, _⟩
        · rw [List.nil_append]
          unfold firstsOf
          rw [Nat.add_zero] at hdj ⊢
          rw [hdj]
          show (k + ((0 : Nat) : Int)) :: _ = _
          congr 1
          omega
        · exact (h2 c).elim
      · rw [decide_eq_false c]
        have hf' : f ++ firstsGo w (k.toNat + i) h (z :: ns.drop (k.toNat + i + 1)) = firstsOf ns w k.toNat := by
          rcases hf with ⟨_, h2⟩ | ⟨_, _, h3⟩
          · exact (c h2).elim
          · rw [← hdj]
            exact h3
        refine iteF ⟨_, rfl, _, _, rfl, rfl, _, rfl, _, rfl, a, _, _, _, rfl, rfl, ((s1.trans (same_new n1)).seq hS), atI_int (atI_nn (by omega) hz2), _, _, rfl, rfl, _, rfl, _, _, rfl, rfl, _, rfl, ?_⟩
        refine k' _ _ ⟨same_new n1, fun hb => ?_, fun hb => ⟨c, ?_⟩⟩
        · have := of_decide_eq_true hb
          rw [firstsGo, if_neg (by omega), ek] at hf'
          exact hf'
        · have := of_decide_eq_false hb
          rw [firstsGo, if_pos (by omega)] at hf'
          exact hf'
    · rintro b H2 ⟨s2, hb1, hb2⟩
      have e2 : IL H2 p f := e1.same s2
      cases b with
      | true =>
        refine iteT (sq_drop ⟨_, rfl, .inl ⟨rfl, _, e2.seq⟩, _, rfl, p, _, _, rfl, rfl, e2, by rw [List.length_map]; omega, ?_⟩)
        have s3 : Same H (upd H2 p (.lst (iV f ++ [.int (k + (i : Int))]))) := same_mut (s1.trans s2) np
        have e3 : IL (upd H2 p (.lst (iV f ++ [.int (k + (i : Int))]))) p (f ++ [k + (i : Int)]) := by
          show upd _ _ _ _ = _
          rw [upd_same, ints_push]
        refine nx_set ⟨_, rfl, _, rfl, a, _, _, _, rfl, rfl, s3.seq hS, atI_int (atI_nn (by omega) hz2), ?_⟩
        refine ⟨f ++ [k + (i : Int)], z, _, rfl, s3, e3, .inr ⟨by omega, by simp, ?_⟩⟩
        rw [List.append_assoc]
        exact hb1 rfl
      | false =>
        obtain ⟨h1, h2⟩ := hb2 rfl
        refine iteF (nx_set ⟨_, rfl, _, _, rfl, rfl, _, rfl, _, rfl, a, _, _, _, rfl, rfl, (s1.trans s2).seq hS, atI_int (atI_nn (by omega) hz2), _, _, rfl, rfl, ?_⟩)
        exact ⟨f, h + 1 + z, _, rfl, s1.trans s2, e2, .inr ⟨by omega, h1, h2⟩⟩
  · rintro σ H' ⟨f, h, j5, rfl, s1, e1, hf⟩
    refine ⟨_, rfl, q p H' np s1 ?_⟩
    rcases hf with ⟨h0, _⟩ | ⟨_, _, hf⟩
    · omega
    · rw [List.drop_eq_nil_of_le (by omega)] at hf
      rw [← hf]
      show IL H' p (f ++ [])
      rw [List.append_nil]
      exact e1
theorem ok__law_pair_right {f : Addr} {fd : FuncData} (F : FnP K "_law_pair_right" (top 37) [] f fd) (W : Wd K mg) (c_wrap_from : Cal P w K mg base (L2.CX P w) 6 "wrap_from" ["text", "width", "word"] [] (sp_wrap_from K)) (c_meeting_word : Cal P w K mg base (L2.CX P w) 5 "meeting_word" ["text", "width", "first", "second"] [] (sp_meeting_word K)) (c__law_begins : Cal P w K mg base CX0 1 "_law_begins" ["plan", "wide", "at"] [] (sp__law_begins K)) : FnOk P w K mg base CX0 7 f fd ["plan", "wide", "at", "to"] (sp__law_pair_right K) := by
  refine FunD.ok F sc__law_pair_right (fun vs H Q E h => ?len) (fun cdv A outer s H vs Q E hr h => ?_)
  case len =>
    obtain ⟨a, ws, wd, i, j, rfl, _⟩ := h
    rfl
  refine ⟨_, PSs.nox (pss_cons (ps_asg (pe_tup (pa_cons (pe_cal c__law_begins (hr.mono (by decide)) pass0 (pa_cons (pv 0) (pa_cons (pv 1) (pa_cons (pv 2) pa_nil)))) (pa_cons (pe_cal c__law_begins (hr.mono (by decide)) pass0 (pa_cons (pv 0) (pa_cons (pv 1) (pa_cons (pv 3) pa_nil)))) pa_nil))) (pg_tup rfl (pgs_cons (pg_name (i := 4) sc__law_pair_right.nd rfl (Or.inl rfl)) (pgs_cons (pg_name (i := 5) sc__law_pair_right.nd rfl (Or.inr rfl)) pgs_nil))))
  (pss_cons (ps_set (i := 6) sc__law_pair_right.nd rfl (.inl rfl) (pe_cal c_meeting_word (hr.mono (by decide)) passL (pa_cons (pv 0) (pa_cons (pv 1) (pa_cons (pv 2) (pa_cons (pv 3) pa_nil))))))
  (pss_cons (ps_par (i := 7) (j := 8) (by rfl) sc__law_pair_right.nd rfl rfl (by decide) rfl rfl (pa_cons (pe_cal c_wrap_from (hr.mono (by decide)) passL (pa_cons (pv 0) (pa_cons (pv 1) (pa_cons (pv 2) pa_nil)))) (pa_cons (pe_cal c_wrap_from (hr.mono (by decide)) passL (pa_cons (pv 0) (pa_cons (pv 1) (pa_cons (pv 3) pa_nil)))) pa_nil)) (by rfl))
  (pss_cons (ps_if (pt_cmpR (op_neD hr.units) (pe_lst (pa_cons (pe_callB call_len_seq (by rfl) W.n_len (by decide +kernel) (pa_cons (pv 7) pa_nil)) (pa_cons (pe_callB call_len_seq (by rfl) W.n_len (by decide +kernel) (pa_cons (pv 8) pa_nil)) pa_nil))) (pe_lst (pa_cons (pe_callB call_len_seq (by rfl) W.n_len (by decide +kernel) (pa_cons (pv 4) pa_nil)) (pa_cons (pe_callB call_len_seq (by rfl) W.n_len (by decide +kernel) (pa_cons (pv 5) pa_nil)) pa_nil))) (nomark _)) (pss_one (ps_ret pe_bl)) pss_nil)
  (pss_cons (ps_if (pt_cmpR op_isN (pv 6) pe_non (nomark _)) (pss_one (ps_if (pt_cmpR (op_neD hr.units) (pe_lc (own := [("k", 15)]) (g := (gName 15)) (by rfl) sc__law_pair_right.nd (pi_list (pv 4)) (blkOk_by (own := [("k", 15)]) (N := ["plan", "wide", "at", "to", "one", "two", "meet", "first_wrap", "second_wrap", "rest", "rows", "others", "late", "begin", "end", "k"]) (sc := defScope (top 37)) (by decide +kernel)) (fun _ _ _ _ _ => (pg_name (i := 15) sc__law_pair_right.nd rfl (Or.inl rfl))) (fun _ _ _ _ _ => pts_one (pt_cmpR (kIn (K := K) rfl) (pv 15) (pv 5) (by rfl))) (fun _ _ _ _ _ => (pv 15))) (pe_lst pa_nil) (nomark _)) (pss_one (ps_ret pe_bl)) pss_nil)) (pss_cons (ps_set (i := 9) sc__law_pair_right.nd rfl (.inl rfl) (pe_cal c_wrap_from (hr.mono (by decide)) passL (pa_cons (pv 0) (pa_cons (pv 1) (pa_cons (pv 6) pa_nil)))))
  (pss_one (ps_if (PW.pt (pw_or (pt_cmpR (op_neD hr.units) (pe_slice sl_list (pv 7) (po_some (pe_bm PySem.F.plainAttrs_list PySem.F.slot_list_index PySem.F.type_list_index mt_index (pv 4) (pa_cons (pv 6) pa_nil))) po_none) (pv 9) (nomark _)) (pw_or1 (pt_cmpR (op_neD hr.units) (pe_slice sl_list (pv 8) (po_some (pe_bm PySem.F.plainAttrs_list PySem.F.slot_list_index PySem.F.type_list_index mt_index (pv 5) (pa_cons (pv 6) pa_nil))) po_none) (pv 9) (nomark _))))) (pss_one (ps_ret pe_bl)) pss_nil))))
  (pss_cons (ps_for PassesOwn.never rfl (pi_list (pe_lst (pa_cons (pe_tup (pa_cons (pv 4) (pa_cons (pv 5) pa_nil))) (pa_cons (pe_tup (pa_cons (pv 5) (pa_cons (pv 4) pa_nil))) pa_nil)))) (pg_tup rfl (pgs_cons (pg_name (i := 10) sc__law_pair_right.nd rfl (Or.inl rfl)) (pgs_cons (pg_name (i := 11) sc__law_pair_right.nd rfl (Or.inl rfl)) pgs_nil)))
  (pss_cons (ps_setLc (i := 12) (own := [("k", 15)]) (g := (gName 15)) (by rfl) sc__law_pair_right.nd rfl rfl (sw_true rfl rfl rfl (by decide +kernel)) (pi_list (pv 10)) (blkOk_by (own := [("k", 15)]) (N := ["plan", "wide", "at", "to", "one", "two", "meet", "first_wrap", "second_wrap", "rest", "rows", "others", "late", "begin", "end", "k"]) (sc := defScope (top 37)) (by decide +kernel)) (fun _ _ _ _ _ => (pg_name (i := 15) sc__law_pair_right.nd rfl (Or.inl rfl))) (fun _ _ _ _ _ => pts_one (pt_cmpR op_ge (pv 15) (pe_callB (call_max2 rfl) (by rfl) W.n_max (by decide +kernel) (pa_cons (pv 2) (pa_cons (pv 3) pa_nil))) (nomark _))) (fun _ _ _ _ _ => (pv 15)))
  (pss_one (ps_for PassesOwn.never rfl (pi_zip (by rfl) W.n_zip (pa_cons (pv 12) (pa_cons (pe_slice sl_list (pv 12) (po_some pe_int) po_none) pa_nil))) (pg_tup rfl (pgs_cons (pg_name (i := 13) sc__law_pair_right.nd rfl (Or.inr rfl)) (pgs_cons (pg_name (i := 14) sc__law_pair_right.nd rfl (Or.inr rfl)) pgs_nil)))
  (pss_one (ps_if (pt_cmpR op_gt (pe_callB call_len_seq (by rfl) W.n_len (by decide +kernel) (pa_cons (pe_lc (own := [("k", 15)]) (g := (gName 15)) (by rfl) sc__law_pair_right.nd (pi_list (pv 11)) (blkOk_by (own := [("k", 15)]) (N := ["plan", "wide", "at", "to", "one", "two", "meet", "first_wrap", "second_wrap", "rest", "rows", "others", "late", "begin", "end", "k"]) (sc := defScope (top 37)) (by decide +kernel)) (fun _ _ _ _ _ => (pg_name (i := 15) sc__law_pair_right.nd rfl (Or.inl rfl))) (fun _ _ _ _ _ => pts_one (pt_chain op_lt op_lt (pv 13) (pv 15) (pv 14))) (fun _ _ _ _ _ => (pv 15))) pa_nil)) pe_int (nomark _)) (pss_one (ps_ret pe_bl)) pss_nil))))))
  (pss_one (ps_ret pe_bl)))))))), ?_⟩
  obtain ⟨a, ws, wd, i, j, rfl, ha, ht, wd1, wd2, i1, i2, j1, j2, q⟩ := h
  have hz : sizeLine = 16777216 := by decide
  have hl := ht.len
  have hi : i.toNat < ws.length := by omega
  have hj : j.toNat < ws.length := by omega
  refine ⟨_, rfl, _, rfl, _, rfl, a, ws, wd, i, rfl, ha.seq, by omega, i1, i2, fun p1 H1 n1 s1 e1 => ?_⟩
  refine ⟨_, rfl, _, rfl, _, rfl, a, ws, wd, j, rfl, (ha.same s1).seq, by omega, j1, j2, fun p2 H2 n2 s2 e2 => ⟨(by show 2 ≤ sizeLine; decide), fun tp ntp => ⟨tp, _, rfl, .inl (.inl upd_same), rfl, _, _, rfl, _, _, rfl, rfl, ?_⟩⟩⟩
  have s3 : Same H (upd H2 tp (.tup [.ref p1, .ref p2])) := (s1.trans s2).trans (same_new ntp)
  have e1' : IL (upd H2 tp (.tup [.ref p1, .ref p2])) p1 _ := (e1.same s2).new ntp
  have e2' : IL (upd H2 tp (.tup [.ref p1, .ref p2])) p2 _ := e2.new ntp
  generalize (upd H2 tp (.tup [.ref p1, .ref p2])) = H3 at s3 e1' e2'
  dsimp only
  refine sq_set ⟨_, rfl, _, rfl, _, rfl, _, rfl, meeting_word_ok (ha.same s3).seq ht wd1 wd2 i1 i2 j1 j2 fun H4 s4 => ?_⟩
  have s34 := s3.trans s4
  refine ⟨_, rfl, _, rfl, _, rfl, wrap_from_ok (ha.same s34).seq ht wd1 wd2 i1 i2 fun x1 H5 m1 s5 f1 => ?_⟩
  refine ⟨_, rfl, _, rfl, _, rfl, wrap_from_ok ((ha.same s34).same s5).seq ht wd1 wd2 j1 j2 fun x2 H6 m2 s6 f2 => ⟨_, _, rfl, ?_⟩⟩
  have s46 := (s4.trans s5).trans s6
  have s36 := s3.trans s46
  have e16 := e1'.same s46
  have e26 := e2'.same s46
  have f16 := f1.same s6
  have ha6 := ha.same s36
  have l1 := wrap_firsts_len (w := wd) hi
  have l2 := wrap_firsts_len (w := wd) hj
  have a1 := firstsOf_asc ws wd i.toNat
  have a2 := firstsOf_asc ws wd j.toNat
  have b1 := firstsOf_len ws wd i.toNat
  have b2 := firstsOf_len ws wd j.toNat
  clear e1' e2' f1 s4 s5 s6 s34 ntp
  dsimp only
  -- the numbers of lines
  refine sq_no (fun H' => Same H6 H') (fun Q' k' => ?_) ?_
  · refine ⟨_, rfl, x1, _, rfl, .inl f16.seq, _, rfl, x2, _, rfl, .inl f2.seq, (by show 2 ≤ sizeLine; decide), fun q1 o1 => ?_⟩
    refine ⟨_, rfl, p1, _, rfl, .inl (e16.new o1).seq, _, rfl, p2, _, rfl, .inl (e26.new o1).seq, (by show 2 ≤ sizeLine; decide), fun q2 o2 => ?_⟩
    have n2' : Nc (2002 * 2 + 3) 1 (.list (([((firstsOf ws wd i.toNat).length : Int), ((firstsOf ws wd j.toNat).length : Int)]).map .int)) := Nc.ints (by show 2 ≤ 2; decide) (ints_small (B := 1000) (by decide) fun m hm => by
      simp at hm
      omega)
    have g1 : IL (upd (upd H6 q1 (.lst [.int ((iV (lawWrap (ws.drop i.toNat) wd)).length : Int), .int ((iV (lawWrap (ws.drop j.toNat) wd)).length : Int)])) q2 (.lst [.int ((iV (firstsOf ws wd i.toNat)).length : Int), .int ((iV (firstsOf ws wd j.toNat)).length : Int)])) q1 [((firstsOf ws wd i.toNat).length : Int), ((firstsOf ws wd j.toNat).length : Int)] := by
      refine at_new ?_ o2
      rw [upd_same, List.length_map, List.length_map, l1, l2]
      rfl
    have g2 : IL (upd (upd H6 q1 (.lst [.int ((iV (lawWrap (ws.drop i.toNat) wd)).length : Int), .int ((iV (lawWrap (ws.drop j.toNat) wd)).length : Int)])) q2 (.lst [.int ((iV (firstsOf ws wd i.toNat)).length : Int), .int ((iV (firstsOf ws wd j.toNat)).length : Int)])) q2 [((firstsOf ws wd i.toNat).length : Int), ((firstsOf ws wd j.toNat).length : Int)] := by
      show upd _ _ _ _ = _
      rw [upd_same, List.length_map, List.length_map]
      rfl
    exact n2'.neD (dp_ints g1) (dp_ints g2) (by decide) ⟨_, rfl, k' _ ((same_new o1).trans (same_new o2))⟩
  intro H7 s7
  have e17 := e16.same s7
  have e27 := e26.same s7
  have f17 := f16.same s7
  have f27 := f2.same s7
  have ha7 := ha6.same s7
  have s37 := s36.trans s7
  clear e16 e26 f16 f2 ha6 s46
  -- if meet is None: .. else: ..
  refine cutN (fun σ' H' => ∃ j9, σ' = [some (.ref a), some (.int wd), some (.int i), some (.int j), some (.ref p1), some (.ref p2), some (optV (meetOf ws wd i.toNat j.toNat)), some (.ref x1), some (.ref x2), j9, none, none, none, none, none, none] ∧ Same H7 H') (fun N' k' => ?_) ?_
  · refine ⟨_, rfl, rfl, _, rfl, ?_⟩
    cases hm : meetOf ws wd i.toNat j.toNat with
    | none =>
      rw [hm] at k'
      rw [decide_eq_true (show optV none = V.non from rfl)]
      refine iteT (if_no (fun H' => Same H7 H') (fun Q' k2 => ?_) (fun H' s' => k' _ _ ⟨_, rfl, s'⟩))
      refine ⟨_, rfl, p1, rfl, ⟨_, e17.seq⟩, fun D nD => ?_⟩
      refine lc_filtI (fun x => decide (x ∈ firstsOf ws wd j.toNat)) (by omega) e17.seq nD (fun k z H8 hz1 s8 Q' k3 => ?_) (fun z H8 Q' k3 => ⟨_, rfl, k3 _ (Same.refl _)⟩) (fun H8 s8 e8 => ?_)
      · refine ⟨_, rfl, _, rfl, p2, _, rfl, .inl (e27.same s8).seq, rfl, flat_ints _, _, rfl, ?_⟩
        show Q' (inV (.int z) (iV (firstsOf ws wd j.toNat))) H8
        rw [inV_ints]
        exact k3 _ (Same.refl _)
      · rw [meet_none hm] at e8
        refine ⟨Nat.zero_le _, fun q1 n1 => ?_⟩
        exact (Nc.ints (n := 0) (ns := []) (Nat.zero_le _) (fun m hm => by cases hm)).neD (dp_ints (e8.new n1)) (dp_ints (ns := []) upd_same) (by decide) ⟨_, rfl, k2 _ (s8.trans (same_new n1))⟩
    | some m =>
      rw [hm] at k'
      rw [decide_eq_false (show ¬ optV (some m) = V.non from fun h => by cases h)]
      obtain ⟨mm1, mm2⟩ := meet_mem hm
      obtain ⟨mr1, mr2⟩ := firstsOf_rng m mm1
      refine iteF (sq_set ⟨_, rfl, _, rfl, _, rfl, wrap_from_ok ha7.seq ht wd1 wd2 mr1 mr2 fun x3 H8 m3 s8 f3 => ?_⟩)
      obtain ⟨k1, hk1⟩ := List.getElem?_of_mem mm1
      obtain ⟨k2, hk2⟩ := List.getElem?_of_mem mm2
      have w1 := wrap_from_first hk1
      have w2 := wrap_from_first hk2
      have hmt := (ht.drop (m := m.toNat) (by omega)).wrap wd
      have nR : Nc (2002 * 300 + 3) 1 _ := Nc.ints hmt.1.len hmt.1.small
      refine if_no (fun H' => Same H8 H') (fun Q' k2' => ?_) (fun H' s' => k' _ _ ⟨_, rfl, s8.trans s'⟩)
      refine or_no (fun H' => Same H8 H') (fun Q' k3 => ?_) ?_
      · refine ⟨_, rfl, _, rfl, .inl ⟨rfl, _, (e17.same s8).seq⟩, _, rfl, p1, _, _, k1, _, rfl, rfl, (e17.same s8).seq, rfl, flat_ints _, get_ints hk1, by show (m == m) = true; simp, index_asc a1 hk1, _, rfl, x1, _, rfl, (f17.same s8).seq, fun c1 nc1 => ?_⟩
        have ecut : cutV (iV (lawWrap (ws.drop i.toNat) wd)) (some (k1 : Int)) none = iV (lawWrap (ws.drop m.toNat) wd) := by
          rw [cutV_map, cutL_from _ _ (by omega), Int.toNat_natCast, w1]
        rw [ecut]
        exact ⟨_, rfl, nR.neD (dp_ints (show IL _ c1 _ from upd_same)) (dp_ints (f3.new nc1)) (by decide) ⟨_, rfl, k3 _ (same_new nc1)⟩⟩
      · intro H9 s9
        refine ⟨_, rfl, _, rfl, .inl ⟨rfl, _, ((e27.same s8).same s9).seq⟩, _, rfl, p2, _, _, k2, _, rfl, rfl, ((e27.same s8).same s9).seq, rfl, flat_ints _, get_ints hk2, by show (m == m) = true; simp, index_asc a2 hk2, _, rfl, x2, _, rfl, ((f27.same s8).same s9).seq, fun c1 nc1 => ?_⟩
        have ecut : cutV (iV (lawWrap (ws.drop j.toNat) wd)) (some (k2 : Int)) none = iV (lawWrap (ws.drop m.toNat) wd) := by
          rw [cutV_map, cutL_from _ _ (by omega), Int.toNat_natCast, w2]
        rw [ecut]
        exact ⟨_, rfl, nR.neD (dp_ints (show IL _ c1 _ from upd_same)) (dp_ints ((f3.same s9).new nc1)) (by decide) ⟨_, rfl, k2' _ (s9.trans (same_new nc1))⟩⟩
  rintro σ' H8 ⟨j9, rfl, s78⟩
  have g1 := e17.same s78
  have g2 := e27.same s78
  have s38 := s37.trans s78
  clear e17 e27 f17 f27 ha7
  refine ⟨_, rfl, _, rfl, (by show 2 ≤ sizeLine; decide), fun t1 n1 => ⟨_, rfl, _, rfl, (by show 2 ≤ sizeLine; decide), fun t2 n2 => ⟨(by show 2 ≤ sizeLine; decide), fun l nl => ⟨l, rfl, ⟨_, .inl (.inl upd_same)⟩, ?_⟩⟩⟩⟩
  have sT : Same H8 (upd (upd (upd H8 t1 (.tup [.ref p1, .ref p2])) t2 (.tup [.ref p2, .ref p1])) l (.lst [.ref t1, .ref t2])) := ((same_new n1).trans (same_new n2)).trans (same_new nl)
  have h1 : (upd (upd (upd H8 t1 (.tup [.ref p1, .ref p2])) t2 (.tup [.ref p2, .ref p1])) l (.lst [.ref t1, .ref t2])) t1 = some (.tup [.ref p1, .ref p2]) := at_new (at_new upd_same n2) nl
  have h2 : (upd (upd (upd H8 t1 (.tup [.ref p1, .ref p2])) t2 (.tup [.ref p2, .ref p1])) l (.lst [.ref t1, .ref t2])) t2 = some (.tup [.ref p2, .ref p1]) := at_new upd_same nl
  have h3 : (upd (upd (upd H8 t1 (.tup [.ref p1, .ref p2])) t2 (.tup [.ref p2, .ref p1])) l (.lst [.ref t1, .ref t2])) l = some (.lst [.ref t1, .ref t2]) := upd_same
  generalize (upd (upd (upd H8 t1 (.tup [.ref p1, .ref p2])) t2 (.tup [.ref p2, .ref p1])) l (.lst [.ref t1, .ref t2])) = H9 at sT h1 h2 h3
  refine for_list (xs := [.ref t1, .ref t2]) (fun i' σ H' => ∃ j10 j11 j12 j13 j14, σ = [some (.ref a), some (.int wd), some (.int i), some (.int j), some (.ref p1), some (.ref p2), some (optV (meetOf ws wd i.toNat j.toNat)), some (.ref x1), some (.ref x2), j9, j10, j11, j12, j13, j14, none] ∧ Same H9 H') ⟨_, _, _, _, _, rfl, Same.refl _⟩ (fun i σ H' _ ⟨_, _, _, _, _, _, s⟩ => .inl (.inl (s _ _ h3))) ?_ ?_
  case refine_2 =>
    rintro σ H' ⟨j10, j11, j12, j13, j14, rfl, s⟩
    exact q _ ((s38.trans sT).trans s)
  rintro i' x σ H' hx ⟨j10', j11', j12', j13', j14', rfl, s⟩
  have hx' : ∃ (t pr po : Addr) (kr ko : Nat), x = .ref t ∧ H9 t = some (.tup [.ref pr, .ref po]) ∧ IL H9 pr (firstsOf ws wd kr) ∧ IL H9 po (firstsOf ws wd ko) ∧ kr < ws.length ∧ ko < ws.length := by
    match i', hx with
    | 0, hx => exact ⟨t1, p1, p2, i.toNat, j.toNat, (Option.some.inj hx).symm, h1, g1.same sT, g2.same sT, hi, hj⟩
    | 1, hx => exact ⟨t2, p2, p1, j.toNat, i.toNat, (Option.some.inj hx).symm, h2, g2.same sT, g1.same sT, hj, hi⟩
  obtain ⟨t, pr, po, kr, ko, rfl, ht9, hr9, ho9, hkr, hko⟩ := hx'
  have hasc := firstsOf_asc ws wd kr
  have hlen := firstsOf_len ws wd kr
  have hlen2 := firstsOf_len ws wd ko
  refine ⟨t, _, rfl, .inl (.inl (s _ _ ht9)), rfl, _, _, rfl, _, _, rfl, rfl, ?_⟩
  dsimp only
  -- late
  have hr0 := hr9.same s
  have ho0 := ho9.same s
  refine ⟨_, rfl, pr, rfl, ⟨_, hr0.seq⟩, fun D nD => ?_⟩
  refine lc_filtI (fun x => decide ((if j > i then j else i) ≤ x)) (by omega) hr0.seq nD (fun k z H10 hz1 s10 Q' k3 => ?_) (fun z H10 Q' k3 => ⟨_, rfl, k3 _ (Same.refl _)⟩) (fun H10 s10 e10 => ?_)
  · exact ⟨_, rfl, _, rfl, _, rfl, _, _, rfl, _, _, rfl, rfl, _, rfl, k3 _ (Same.refl _)⟩
  obtain ⟨d, hd⟩ := asc_drop hasc (if j > i then j else i)
  rw [hd] at e10
  have ho10 := ho0.same s10
  have s910 := s.trans s10
  refine gn_go ?_
  dsimp only
  -- for begin, end in zip(late, late[1:])
  refine ⟨_, rfl, _, rfl, _, rfl, D, _, rfl, e10.seq, fun c nc => ?_⟩
  have ecut : cutV (iV ((firstsOf ws wd kr).drop d)) (some 1) none = iV ((firstsOf ws wd kr).drop (d + 1)) := by
    rw [cutV_map, cutL_from _ _ (by decide), List.drop_drop]
    rfl
  rw [ecut]
  refine ⟨D, c, _, _, rfl, ((e10.new nc)).seq, .inl (.inl upd_same), ?_⟩
  have e11 : IL (upd H10 c (.lst (iV ((firstsOf ws wd kr).drop (d + 1))))) D _ := e10.new nc
  have c11 : IL (upd H10 c (.lst (iV ((firstsOf ws wd kr).drop (d + 1))))) c _ := upd_same
  have o11 : IL (upd H10 c (.lst (iV ((firstsOf ws wd kr).drop (d + 1))))) po _ := ho10.new nc
  have s11 := same_new (u := .lst (iV ((firstsOf ws wd kr).drop (d + 1)))) nc
  generalize (upd H10 c (.lst (iV ((firstsOf ws wd kr).drop (d + 1))))) = H11 at e11 c11 o11 s11
  refine for_it (n := ((firstsOf ws wd kr).drop (d + 1)).length) (walk_zip (xs := iV ((firstsOf ws wd kr).drop d)) (ys := iV ((firstsOf ws wd kr).drop (d + 1))) (by simp; omega)) (fun i' σ H' => ∃ j13 j14, σ = [some (.ref a), some (.int wd), some (.int i), some (.int j), some (.ref p1), some (.ref p2), some (optV (meetOf ws wd i.toNat j.toNat)), some (.ref x1), some (.ref x2), j9, some (.ref pr), some (.ref po), some (.ref D), j13, j14, none] ∧ Same H11 H') ⟨_, _, rfl, Same.refl _⟩ (fun i' σ H' _ ⟨_, _, _, s'⟩ => ⟨(e11.same s').seq, (c11.same s').seq⟩) ?_ ?_
  · rintro i2 v σ H12 H13 hi2 ⟨j13, j14, rfl, s12⟩ ⟨T, x, y, rfl, nT, rfl, hx, hy⟩
    obtain ⟨xv, hx1, rfl⟩ := ints_get hx
    obtain ⟨yv, hy1, rfl⟩ := ints_get hy
    rw [List.getElem?_drop] at hx1 hy1
    have hy2 : (firstsOf ws wd kr)[d + i2 + 1]? = some yv := by
      rw [show d + i2 + 1 = d + 1 + i2 by omega]
      exact hy1
    have hle := rows_between ht.2.1 hkr hko hx1 hy2
    refine ⟨T, _, rfl, .inl (.inl upd_same), rfl, _, _, rfl, _, _, rfl, rfl, ?_⟩
    have o12 := (o11.same s12).new (o := .tup [.int xv, .int yv]) nT
    have s12' := s12.trans (same_new (u := .tup [.int xv, .int yv]) nT)
    generalize (upd H12 T (.tup [.int xv, .int yv])) = H13 at o12 s12'
    refine if_no (fun H' => Same H13 H') (fun Q' k' => ?_) (fun H' s' => ⟨_, _, rfl, s12'.trans s'⟩)
    refine ⟨_, rfl, po, rfl, ⟨_, o12.seq⟩, fun D2 nD2 => ?_⟩
    refine lc_filtI (fun t => decide (xv < t) && decide (t < yv)) (by omega) o12.seq nD2 (fun k z H14 hz1 s14 Q2 k3 => ?_) (fun z H14 Q2 k3 => ⟨_, rfl, k3 _ (Same.refl _)⟩) (fun H14 s14 e14 => ?_)
    · refine ⟨_, rfl, _, rfl, _, _, rfl, rfl, _, rfl, ?_⟩
      by_cases c : xv < z
      · simp only [decide_eq_true c, Bool.true_and] at k3
        rw [decide_eq_true c]
        exact iteT ⟨_, rfl, _, _, rfl, rfl, _, rfl, k3 _ (Same.refl _)⟩
      · simp only [decide_eq_false c, Bool.false_and] at k3
        rw [decide_eq_false c]
        exact iteF ⟨_, rfl, k3 _ (Same.refl _)⟩
    · refine ⟨D2, _, rfl, .inl e14.seq, _, _, rfl, rfl, _, rfl, ?_⟩
      rw [List.length_map, decide_eq_false (by omega)]
      exact k' _ s14
  · rintro σ H' ⟨j13, j14, rfl, s'⟩
    exact ⟨_, _, _, _, _, rfl, (s910.trans s11).trans s'⟩
theorem ok__law_edit_right {f : Addr} {fd : FuncData} (F : FnP K "_law_edit_right" (top 38) [] f fd) (W : Wd K mg) (c_changed_lines : Cal P w K mg base (L2.CX P w) 6 "changed_lines" ["text", "other", "width"] [] (sp_changed_lines K)) (c__law_begins : Cal P w K mg base CX0 1 "_law_begins" ["plan", "wide", "at"] [] (sp__law_begins K)) (c_wrap_text : Cal P w K mg base (L2.CX P w) 5 "wrap_text" ["text", "width"] [] (sp_wrap_text K)) (c_replace_words : Cal P w K mg base (L2.CX P w) 5 "replace_words" ["text", "first", "count", "words"] [] (sp_replace_words K)) (c__law_span : Cal P w K mg base CX0 1 "_law_span" ["sizes"] [] (sp__law_span K)) (c__law_plan : Cal P w K mg base CX0 2 "_law_plan" ["deck", "most", "longest"] [] (sp__law_plan K)) (c__law_draw : Cal P w K mg base CX0 1 "_law_draw" ["deck", "many"] [] (sp__law_draw K)) : FnOk P w K mg base CX0 7 f fd ["deck", "plan", "wide"] (sp__law_edit_right K) := by
  refine FunD.ok F sc__law_edit_right (fun vs H Q E h => ?len) (fun cdv A outer s H vs Q E hr h => ?_)
  case len =>
    obtain ⟨a, qs, n, w, ws, wd, rfl, _⟩ := h
    rfl
  refine ⟨_, PSs.nox (pss_cons (ps_set (i := 3) sc__law_edit_right.nd rfl (.inr rfl) (pe_cal c__law_draw (hr.mono (by decide)) pass0 (pa_cons (pv 0) (pa_cons (pe_callB call_len_seq (by rfl) W.n_len (by decide +kernel) (pa_cons (pv 1) pa_nil)) pa_nil))))
  (pss_cons (ps_set (i := 4) sc__law_edit_right.nd rfl (.inl rfl) (pe_cal c__law_draw (hr.mono (by decide)) pass0 (pa_cons (pv 0) (pa_cons (pe_op op_add (pe_callB (call_min2 rfl) (by rfl) W.n_min (by decide +kernel) (pa_cons pe_int (pa_cons (pe_op op_sub (pe_callB call_len_seq (by rfl) W.n_len (by decide +kernel) (pa_cons (pv 1) pa_nil)) (pv 3)) pa_nil))) pe_int) pa_nil))))
  (pss_cons (ps_set (i := 5) sc__law_edit_right.nd rfl (.inl rfl) (pe_cal c__law_plan (hr.mono (by decide)) pass0 (pa_cons (pv 0) (pa_cons pe_int (pa_cons pe_int pa_nil)))))
  (pss_cons (ps_if (pt_cmpR op_gt (pe_op op_add (pe_op op_add (pe_cal c__law_span (hr.mono (by decide)) pass0 (pa_cons (pv 1) pa_nil)) pe_int) (pe_cal c__law_span (hr.mono (by decide)) pass0 (pa_cons (pv 5) pa_nil))) pe_int (nomark _)) (pss_one (ps_ret pe_bl)) pss_nil)
  (pss_cons (ps_set (i := 6) sc__law_edit_right.nd rfl (.inl rfl) (pe_cal c_replace_words (hr.mono (by decide)) passL (pa_cons (pv 1) (pa_cons (pv 3) (pa_cons (pv 4) (pa_cons (pv 5) pa_nil))))))
  (pss_cons (ps_if (pt_cmpR (op_neD hr.units) (pe_cal c_replace_words (hr.mono (by decide)) passL (pa_cons (pv 6) (pa_cons (pv 3) (pa_cons (pe_callB call_len_seq (by rfl) W.n_len (by decide +kernel) (pa_cons (pv 5) pa_nil)) (pa_cons (pe_slice sl_list (pv 1) (po_some (pv 3)) (po_some (pe_op op_add (pv 3) (pv 4)))) pa_nil))))) (pv 1) (nomark _)) (pss_one (ps_ret pe_bl)) pss_nil)
  (pss_cons (ps_par (i := 7) (j := 8) (by rfl) sc__law_edit_right.nd rfl rfl (by decide) rfl rfl (pa_cons (pe_cal c_wrap_text (hr.mono (by decide)) passL (pa_cons (pv 1) (pa_cons (pv 2) pa_nil))) (pa_cons (pe_cal c_wrap_text (hr.mono (by decide)) passL (pa_cons (pv 6) (pa_cons (pv 2) pa_nil))) pa_nil)) (by rfl))
  (pss_cons (ps_asg (pe_cal c_changed_lines (hr.mono (by decide)) passL (pa_cons (pv 1) (pa_cons (pv 6) (pa_cons (pv 2) pa_nil)))) (pg_tup rfl (pgs_cons (pg_name (i := 9) sc__law_edit_right.nd rfl (Or.inl rfl)) (pgs_cons (pg_name (i := 10) sc__law_edit_right.nd rfl (Or.inl rfl)) pgs_nil))))
  (pss_cons (ps_set (i := 11) sc__law_edit_right.nd rfl (.inl rfl) (pe_cal c__law_begins (hr.mono (by decide)) pass0 (pa_cons (pv 1) (pa_cons (pv 2) (pa_cons pe_int pa_nil)))))
  (pss_cons (ps_if (PW.pt (pw_or (pt_cmpR op_lt (pv 9) (pe_op op_sub (pe_callB call_len_seq (by rfl) W.n_len (by decide +kernel) (pa_cons (pe_lc (own := [("k", 12)]) (g := (gName 12)) (by rfl) sc__law_edit_right.nd (pi_list (pv 11)) (blkOk_by (own := [("k", 12)]) (N := ["deck", "plan", "wide", "at", "many", "more", "other_plan", "one", "two", "front", "behind", "begins", "k"]) (sc := defScope (top 38)) (by decide +kernel)) (fun _ _ _ _ _ => (pg_name (i := 12) sc__law_edit_right.nd rfl (Or.inl rfl))) (fun _ _ _ _ _ => pts_one (pt_cmpR op_le (pv 12) (pv 3) (nomark _))) (fun _ _ _ _ _ => (pv 12))) pa_nil)) pe_int) (nomark _)) (pw_or1 (pt_cmpR op_gt (pe_op op_add (pv 9) (pv 10)) (pe_callB (call_min2 rfl) (by rfl) W.n_min (by decide +kernel) (pa_cons (pe_callB call_len_seq (by rfl) W.n_len (by decide +kernel) (pa_cons (pv 7) pa_nil)) (pa_cons (pe_callB call_len_seq (by rfl) W.n_len (by decide +kernel) (pa_cons (pv 8) pa_nil)) pa_nil))) (nomark _))))) (pss_one (ps_ret pe_bl)) pss_nil)
  (pss_cons (ps_if (PW.pt (pw_or (pt_cmpR (op_neD hr.units) (pe_slice sl_list (pv 7) po_none (po_some (pv 9))) (pe_slice sl_list (pv 8) po_none (po_some (pv 9))) (nomark _)) (pw_or1 (pt_cmpR (op_neD hr.units) (pe_slice sl_list (pv 7) (po_some (pe_op op_sub (pe_callB call_len_seq (by rfl) W.n_len (by decide +kernel) (pa_cons (pv 7) pa_nil)) (pv 10))) po_none) (pe_slice sl_list (pv 8) (po_some (pe_op op_sub (pe_callB call_len_seq (by rfl) W.n_len (by decide +kernel) (pa_cons (pv 8) pa_nil)) (pv 10))) po_none) (nomark _))))) (pss_one (ps_ret pe_bl)) pss_nil)
  (pss_one (ps_ret (pe_cmpR (op_eqD hr.units) (pe_cal c_changed_lines (hr.mono (by decide)) passL (pa_cons (pv 6) (pa_cons (pv 1) (pa_cons (pv 2) pa_nil)))) (pe_tup (pa_cons (pv 9) (pa_cons (pv 10) pa_nil))) (nomark _))))))))))))))), ?_⟩
  obtain ⟨a, qs, n, w, ws, wd, rfl, hD, hn, ew, hwS, ht, wd1, wd2, q⟩ := h
  have hz : sizeLine = 16777216 := by decide
  have e39 : (2 : Nat) ^ 39 = 549755813888 := by decide
  rw [e39] at hn
  have hl := ht.len
  have hl1 : 1 ≤ ws.length := List.length_pos_iff.mpr ht.1
  refine sq_set ⟨_, rfl, _, rfl, w, _, rfl, .inl ew.seq, a, qs, n, _, rfl, hD, by omega, by rw [List.length_map]; omega, by rw [List.length_map]; omega, fun at_ H1 at1 at2 D1 s1 => ?_⟩
  rw [List.length_map] at at2
  have ew1 := s1.il hwS ew
  refine sq_set ⟨_, rfl, _, rfl, w, _, rfl, .inl ew1.seq, _, rfl, _, _, rfl, rfl, _, _, rfl, _, _, rfl, rfl, ?_⟩
  rw [List.length_map]
  generalize hmx : (if (ws.length : Int) - at_ < 5 then (ws.length : Int) - at_ else 5) = mx
  have hmx2 : 1 ≤ mx ∧ mx ≤ ws.length - at_ ∧ mx ≤ 5 := by
    rw [← hmx]
    split <;> omega
  refine ⟨a, qs, _, _, rfl, D1, by omega, by omega, by omega, fun many H2 many1 many2 D2 s2 => ?_⟩
  have ew2 := s2.il hwS ew1
  refine sq_set ⟨_, rfl, a, qs, _, 4, 9, rfl, D2, by omega, by decide, by decide, by decide, by decide, fun m ms H3 nm s3 D3 em hm => ?_⟩
  have ew3 := s3.il hwS ew2
  have s03 := (s1.trans s2).trans s3
  have hml := hm.len
  dsimp only
  refine sq_if0 ⟨_, rfl, w, ws, rfl, ew3.seq, _, _, rfl, rfl, _, rfl, m, ms, rfl, em.seq, _, _, rfl, rfl, _, _, rfl, rfl, _, rfl, ?_⟩
  by_cases c0 : 600 < total ws + 1 + total ms
  · rw [decide_eq_true c0]
    exact iteT (rt_ret (q _ s03 (D3.mono (by omega))))
  rw [decide_eq_false c0]
  have hO := txt_edit (a := at_.toNat) (b := at_.toNat + many.toNat) ht hm (by omega) (by omega)
  have hOl := hO.len
  refine iteF (sq_set ⟨_, rfl, _, rfl, _, rfl, _, rfl, replace_words_of ew3.seq ht em (by omega) at1 (by omega) many1 (by omega) (fun _ o H4 no s4 eo => ?_) (fun h => (h hO).elim)⟩)
  have eb := edit_back (ws := ws) (ms := ms) (a := at_.toNat) (c := many.toNat) (by omega)
  have hfr := edit_front (w := wd) (ys := ws.drop (at_.toNat + many.toNat)) (show at_.toNat < ws.length by omega) hm.1
  have hOL : (ws.take at_.toNat ++ ms ++ ws.drop (at_.toNat + many.toNat)).length = at_.toNat + ms.length + (ws.length - (at_.toNat + many.toNat)) := by
    rw [List.length_append, List.length_append, List.length_take, List.length_drop]
    omega
  generalize (ws.take at_.toNat ++ ms ++ ws.drop (at_.toNat + many.toNat)) = os at hO eo eb hfr hOl hOL
  have ew4 := ew3.same s4
  have em4 := em.same s4
  have nW : Nc (2002 * 300 + 3) 1 (.list (ws.map .int)) := Nc.ints ht.len ht.small
  refine sq_no (fun H' => Same H4 H') (fun Q' k' => ?_) ?_
  · refine ⟨_, rfl, _, rfl, _, rfl, m, _, rfl, .inl em4.seq, _, rfl, _, rfl, _, rfl, _, rfl, _, rfl, _, _, rfl, rfl, _, rfl, w, _, rfl, ew4.seq, fun c nc => ?_⟩
    have ecut : cutV (iV ws) (some at_) (some (at_ + many)) = iV ((ws.drop at_.toNat).take many.toNat) := by
      rw [cutV_map, cutL_mid _ _ _ at1 (by omega)]
      congr 2
      omega
    rw [ecut, List.length_map]
    have e1 : os.take at_.toNat ++ (ws.drop at_.toNat).take many.toNat ++ os.drop (at_.toNat + (ms.length : Int).toNat) = ws := eb
    refine replace_words_of (eo.new nc).seq hO (show IL _ c _ from upd_same) (by rw [List.length_take]; omega) at1 (by omega) (by omega) (by omega) ?_ ?_
    · rw [e1]
      intro _ p H6 np s6 e6
      exact ⟨_, rfl, nW.neD (dp_ints e6) (dp_ints ((ew4.new nc).same s6)) (by decide) ⟨_, rfl, k' _ ((same_new nc).trans s6)⟩⟩
    · rw [e1]
      exact fun h => (h ht).elim
  intro H5 s5
  have ew5 := ew4.same s5
  have eo5 := eo.same s5
  refine ⟨_, rfl, _, rfl, wrap_text_ok ew5.seq ht wd1 wd2 fun x1 H6 n6 s6 e6 => ?_⟩
  refine ⟨_, rfl, _, rfl, wrap_text_ok (eo5.same s6).seq hO wd1 wd2 fun x2 H7 n7 s7 e7 => ⟨_, _, rfl, ?_⟩⟩
  have e67 := e6.same s7
  have s57 := s6.trans s7
  dsimp only
  refine ⟨_, rfl, _, rfl, _, rfl, changed_lines_ok (ew5.same s57).seq ht (eo5.same s57).seq hO wd1 wd2 fun t H8 n8 s8 e8 => ⟨t, _, rfl, .inl (.inl e8), rfl, _, _, rfl, _, _, rfl, rfl, ?_⟩⟩
  have s58 := s57.trans s8
  have ew8 := ew5.same s58
  have eo8 := eo5.same s58
  have e68 := e67.same s8
  have e78 := e7.same s8
  have s08 : SameS (a :: qs) H H8 := s03.trans (SameS.of ((s4.trans s5).trans s58))
  have D8 := ((D3.same s4).same s5).same s58
  clear e6 e7 e67 e8 ew5 eo5 ew4 eo em em4 s6 s7 s57 s58 s4 s5 s8 D3 D2 D1 s1 s2 s3 s03 ew1 ew2 ew3
  have hsym : chgOf os ws wd = chgOf ws os wd := chgOf_comm os ws wd
  obtain ⟨tF1, tF2⟩ := ht.wrap wd
  obtain ⟨tO1, tO2⟩ := hO.wrap wd
  have hF : chgOf ws os wd = (((comPre (lawWrap ws wd) (lawWrap os wd) : Nat) : Int), ((comPre ((lawWrap ws wd).drop (comPre (lawWrap ws wd) (lawWrap os wd))).reverse ((lawWrap os wd).drop (comPre (lawWrap ws wd) (lawWrap os wd))).reverse : Nat) : Int)) := rfl
  have hc1 := comPre_le (lawWrap ws wd) (lawWrap os wd)
  have hc2 := comPre_le ((lawWrap ws wd).drop (comPre (lawWrap ws wd) (lawWrap os wd))).reverse ((lawWrap os wd).drop (comPre (lawWrap ws wd) (lawWrap os wd))).reverse
  have hd1 := comPre_take (lawWrap ws wd) (lawWrap os wd)
  have hd2 := rev_drop (comPre_take ((lawWrap ws wd).drop (comPre (lawWrap ws wd) (lawWrap os wd))).reverse ((lawWrap os wd).drop (comPre (lawWrap ws wd) (lawWrap os wd))).reverse)
  rw [List.length_reverse, List.length_reverse, List.length_drop, List.length_drop] at hc2
  rw [List.length_drop, List.length_drop, List.drop_drop, List.drop_drop] at hd2
  generalize comPre ((lawWrap ws wd).drop (comPre (lawWrap ws wd) (lawWrap os wd))).reverse ((lawWrap os wd).drop (comPre (lawWrap ws wd) (lawWrap os wd))).reverse = be at hF hc2 hd2
  generalize hfn : comPre (lawWrap ws wd) (lawWrap os wd) = fr at hF hc1 hc2 hd1 hd2 hfr
  rw [hF]
  rw [hF] at hsym
  dsimp only
  refine sq_set ⟨_, rfl, _, rfl, w, ws, wd, 0, rfl, ew8.seq, by omega, by decide, by omega, fun p H9 n9 s9 e9 => ?_⟩
  have l9 := firstsOf_len ws wd (0 : Int).toNat
  refine sq_no (fun H' => Same H9 H') (fun Q' k' => ?_) ?_
  · refine or_no (fun H' => Same H9 H') (fun Q2 k2 => ?_) (fun H' s' => ?_)
    · refine ⟨_, rfl, _, rfl, p, rfl, ⟨_, e9.seq⟩, fun D nD => ?_⟩
      refine lc_filtI (fun x => decide (x ≤ at_)) (by omega) e9.seq nD (fun k z H10 hz1 s10 Q3 k3 => ⟨_, rfl, _, rfl, _, _, rfl, rfl, _, rfl, k3 _ (Same.refl _)⟩) (fun z H10 Q3 k3 => ⟨_, rfl, k3 _ (Same.refl _)⟩) (fun H10 s10 e10 => ?_)
      refine ⟨D, _, rfl, .inl e10.seq, _, _, rfl, rfl, _, _, rfl, rfl, _, rfl, ?_⟩
      rw [List.length_map]
      have hat : ((at_.toNat : Nat) : Int) = at_ := by omega
      rw [hat] at hfr
      have : ((firstsOf ws wd (0 : Int).toNat).filter fun x => decide (x ≤ at_)).length ≤ fr + 2 := hfr
      rw [decide_eq_false (by omega)]
      exact k2 _ s10
    · refine ⟨_, rfl, _, rfl, _, _, rfl, rfl, _, rfl, x1, _, rfl, .inl ((e68.same s9).same s').seq, _, rfl, x2, _, rfl, .inl ((e78.same s9).same s').seq, _, _, rfl, _, _, rfl, rfl, _, rfl, ?_⟩
      rw [List.length_map, List.length_map, decide_eq_false (by split <;> omega)]
      exact k' _ s'
  intro H10 s10
  have s910 := s9.trans s10
  have f1 := e68.same s910
  have f2 := e78.same s910
  refine sq_no (fun H' => Same H10 H') (fun Q' k' => ?_) ?_
  · refine or_no (fun H' => Same H10 H') (fun Q2 k2 => ?_) (fun H' s' => ?_)
    · refine ⟨_, rfl, _, rfl, _, rfl, x1, _, rfl, f1.seq, fun c nc => ?_⟩
      have ec1 : cutV (iV (lawWrap ws wd)) none (some (fr : Int)) = iV ((lawWrap ws wd).take fr) := by
        rw [cutV_map, cutL_to _ _ (by omega)]
        rfl
      rw [ec1]
      refine ⟨_, rfl, _, rfl, _, rfl, x2, _, rfl, (f2.new nc).seq, fun c2 nc2 => ?_⟩
      have ec2 : cutV (iV (lawWrap os wd)) none (some (fr : Int)) = iV ((lawWrap ws wd).take fr) := by
        rw [cutV_map, cutL_to _ _ (by omega), hd1]
        rfl
      rw [ec2]
      have nT : Nc (2002 * 300 + 3) 1 (.list (((lawWrap ws wd).take fr).map .int)) := Nc.ints (Nat.le_trans (List.length_take_le' _ _) tF1.len) (fun m hm => tF1.small m (List.take_subset _ _ hm))
      exact nT.neD (dp_ints (at_new (upd_same (H := H10)) nc2)) (dp_ints (show IL _ c2 _ from upd_same)) (by decide) ⟨_, rfl, k2 _ ((same_new nc).trans (same_new nc2))⟩
    · have f1' := f1.same s'
      have f2' := f2.same s'
      refine ⟨_, rfl, _, rfl, x1, _, rfl, .inl f1'.seq, _, rfl, _, _, rfl, rfl, _, rfl, x1, _, rfl, f1'.seq, fun c nc => ?_⟩
      have ec1 : cutV (iV (lawWrap ws wd)) (some (((iV (lawWrap ws wd)).length : Int) - (be : Int))) none = iV ((lawWrap ws wd).drop (fr + ((lawWrap ws wd).length - fr - be))) := by
        rw [List.length_map, cutV_map, cutL_from _ _ (by omega)]
        congr 2
        omega
      rw [ec1]
      refine ⟨_, rfl, _, rfl, x2, _, rfl, .inl (f2'.new nc).seq, _, rfl, _, _, rfl, rfl, _, rfl, x2, _, rfl, (f2'.new nc).seq, fun c2 nc2 => ?_⟩
      have ec2 : cutV (iV (lawWrap os wd)) (some (((iV (lawWrap os wd)).length : Int) - (be : Int))) none = iV ((lawWrap ws wd).drop (fr + ((lawWrap ws wd).length - fr - be))) := by
        rw [hd2, List.length_map, cutV_map, cutL_from _ _ (by omega)]
        congr 2
        omega
      rw [ec2]
      have nT : Nc (2002 * 300 + 3) 1 (.list (((lawWrap ws wd).drop (fr + ((lawWrap ws wd).length - fr - be))).map .int)) := Nc.ints (by rw [List.length_drop]; have := tF1.len; omega) (fun m hm => tF1.small m (List.drop_subset _ _ hm))
      exact nT.neD (dp_ints (at_new (upd_same (H := H')) nc2)) (dp_ints (show IL _ c2 _ from upd_same)) (by decide) ⟨_, rfl, k' _ (s'.trans ((same_new nc).trans (same_new nc2)))⟩
  intro H11 s11
  have s811 := (s9.trans s10).trans s11
  refine rt_ret (op_go ⟨_, rfl, _, rfl, _, rfl, changed_lines_ok (eo8.same s811).seq hO (ew8.same s811).seq ht wd1 wd2 fun t2 H12 n12 s12 e12 => ⟨_, rfl, _, rfl, (by show 2 ≤ sizeLine; decide), fun t3 n3 => ?_⟩⟩)
  rw [hsym] at e12
  have l1 := tF1.len
  have nT : Nc (2002 * 2 + 3) 1 (.tuple [.int fr, .int be]) := Nc.tuple (Ncs.all (w := 2000) (n := 2) (by show 2 ≤ 2; decide) fun d hd => by
    simp at hd
    rcases hd with rfl | rfl
    · exact Nc.int (sm_of (by omega))
    · exact Nc.int (sm_of (by omega)))
  refine nT.eqD (.tup (.inl (.inl (at_new e12 n3))) (.cons (.int _) (.cons (.int _) .nil))) (.tup (.inl (.inl upd_same)) (.cons (.int _) (.cons (.int _) .nil))) (by decide) ?_
  exact q _ (s08.trans (SameS.of ((s811.trans s12).trans (same_new n3)))) ((((D8.same s811).same s12).new n3).mono (by omega))
theorem ok_law {f : Addr} {fd : FuncData} (F : FnP K "law" (top 39) [] f fd) (W : Wd K mg) (c__law_edit_right : Cal P w K mg base CX0 7 "_law_edit_right" ["deck", "plan", "wide"] [] (sp__law_edit_right K)) (c__law_pair_right : Cal P w K mg base CX0 7 "_law_pair_right" ["plan", "wide", "at", "to"] [] (sp__law_pair_right K)) (c__law_draw : Cal P w K mg base CX0 1 "_law_draw" ["deck", "many"] [] (sp__law_draw K)) (c_wrap_from : Cal P w K mg base (L2.CX P w) 6 "wrap_from" ["text", "width", "word"] [] (sp_wrap_from K)) (c_wrap_text : Cal P w K mg base (L2.CX P w) 5 "wrap_text" ["text", "width"] [] (sp_wrap_text K)) (c__law_begins : Cal P w K mg base CX0 1 "_law_begins" ["plan", "wide", "at"] [] (sp__law_begins K)) (c__law_plan : Cal P w K mg base CX0 2 "_law_plan" ["deck", "most", "longest"] [] (sp__law_plan K)) (c__law_deck : Cal P w K mg base CX0 1 "_law_deck" ["script"] [] (sp__law_deck K)) : FnG P w K mg base 8 f fd ["script"] (sp_law K) := by
  refine fnG_of F sc_law (fun vs H Q E h => ?len) (fun cdv A outer s H vs Q E hgd hr h => ?_)
  case len =>
    obtain ⟨a, ns, rfl, _⟩ := h
    rfl
  refine ⟨_, (pss_cons (ps_set (i := 1) sc_law.nd rfl (.inl rfl) (pe_cal c__law_deck (hr.mono (by decide)) pass0 (pa_cons (pv 0) pa_nil)))
  (pss_cons (ps_for PassesOwn.never rfl (pi_range1 (by rfl) W.n_range (pa_cons pe_int pa_nil)) (pg_name (i := 2) sc_law.nd rfl (Or.inl rfl))
  (pss_cons (ps_asg (pe_ix ix_list (pe_lst (pa_cons (pe_tup (pa_cons pe_int (pa_cons pe_int pa_nil))) (pa_cons (pe_tup (pa_cons pe_int (pa_cons pe_int pa_nil))) (pa_cons (pe_tup (pa_cons pe_int (pa_cons pe_int pa_nil))) (pa_cons (pe_tup (pa_cons pe_int (pa_cons pe_int pa_nil))) pa_nil))))) (pe_cal c__law_draw (hr.mono (by decide)) pass0 (pa_cons (pv 1) (pa_cons pe_int pa_nil))) (fun _ _ => rfl)) (pg_tup rfl (pgs_cons (pg_name (i := 3) sc_law.nd rfl (Or.inl rfl)) (pgs_cons (pg_name (i := 4) sc_law.nd rfl (Or.inl rfl)) pgs_nil))))
  (pss_cons (ps_set (i := 5) sc_law.nd rfl (.inl rfl) (pe_cal c__law_plan (hr.mono (by decide)) pass0 (pa_cons (pv 1) (pa_cons (pv 3) (pa_cons (pv 4) pa_nil)))))
  (pss_cons (ps_set (i := 6) sc_law.nd rfl (.inl rfl) (pe_op op_add pe_int (pe_cal c__law_draw (hr.mono (by decide)) pass0 (pa_cons (pv 1) (pa_cons (pe_ix ix_list (pe_lst (pa_cons pe_int (pa_cons pe_int (pa_cons pe_int (pa_cons pe_int pa_nil))))) (pe_cal c__law_draw (hr.mono (by decide)) pass0 (pa_cons (pv 1) (pa_cons pe_int pa_nil))) (fun _ _ => rfl)) pa_nil)))))
  (pss_cons (ps_par (i := 7) (j := 8) (by rfl) sc_law.nd rfl rfl (by decide) rfl rfl (pa_cons (pe_cal c__law_begins (hr.mono (by decide)) pass0 (pa_cons (pv 5) (pa_cons (pv 6) (pa_cons pe_int pa_nil)))) (pa_cons (pe_cal c_wrap_text (hr.mono (by decide)) passL (pa_cons (pv 5) (pa_cons (pv 6) pa_nil))) pa_nil)) (by rfl))
  (pss_cons (ps_set (i := 9) sc_law.nd rfl (.inl rfl) (pe_cal c__law_draw (hr.mono (by decide)) pass0 (pa_cons (pv 1) (pa_cons (pe_callB call_len_seq (by rfl) W.n_len (by decide +kernel) (pa_cons (pv 7) pa_nil)) pa_nil))))
  (pss_cons (ps_if (pt_cmpR (op_neD hr.units) (pe_cal c_wrap_from (hr.mono (by decide)) passL (pa_cons (pv 5) (pa_cons (pv 6) (pa_cons (pe_ix ix_list (pv 7) (pv 9) (fun _ _ => rfl)) pa_nil)))) (pe_slice sl_list (pv 8) (po_some (pv 9)) po_none) (nomark _)) (pss_one (ps_ret pe_bl)) pss_nil)
  (pss_cons (ps_for PassesOwn.never rfl (pi_range1 (by rfl) W.n_range (pa_cons pe_int pa_nil)) (pg_name (i := 10) sc_law.nd rfl (Or.inl rfl))
  (pss_one (ps_if (pt_not (pt_val (pe_cal c__law_pair_right (hr.mono (by decide)) pass0 (pa_cons (pv 5) (pa_cons (pv 6) (pa_cons (pe_cal c__law_draw (hr.mono (by decide)) pass0 (pa_cons (pv 1) (pa_cons (pe_callB call_len_seq (by rfl) W.n_len (by decide +kernel) (pa_cons (pv 5) pa_nil)) pa_nil))) (pa_cons (pe_cal c__law_draw (hr.mono (by decide)) pass0 (pa_cons (pv 1) (pa_cons (pe_callB call_len_seq (by rfl) W.n_len (by decide +kernel) (pa_cons (pv 5) pa_nil)) pa_nil))) pa_nil))))))) (pss_one (ps_ret pe_bl)) pss_nil)))
  (pss_one (ps_if (pt_not (pt_val (pe_cal c__law_edit_right (hr.mono (by decide)) pass0 (pa_cons (pv 1) (pa_cons (pv 5) (pa_cons (pv 6) pa_nil)))))) (pss_one (ps_ret pe_bl)) pss_nil))))))))))
  (pss_one (ps_ret pe_bl)))), ?_⟩
  obtain ⟨a, ns, rfl, hS, hl, _, q⟩ := h
  have hz : sizeLine = 16777216 := by decide
  refine sq_set ⟨_, rfl, a, ns, rfl, hS, hl, fun b qs H0 hfr s0 D0 => ?_⟩
  refine ⟨8, rfl, by decide, by decide, ?_⟩
  refine for_range (lo := 0) (n := 8) (fun i σ H' => ∃ j2 j3 j4 j5 j6 j7 j8 j9 j10, σ = [some (.ref a), some (.ref b), j2, j3, j4, j5, j6, j7, j8, j9, j10] ∧ Same H H' ∧ Deck H' b qs (20000 * i))
    ⟨_, _, _, _, _, _, _, _, _, rfl, s0, D0⟩ ?_ ?_
  case refine_2 =>
    rintro σ H' ⟨j2, j3, j4, j5, j6, j7, j8, j9, j10, rfl, s, _⟩
    exact q _
  rintro i0 σ H1 hi0 ⟨j2, j3, j4, j5, j6, j7, j8, j9, j10, rfl, s1, D1⟩
  refine draw_pairs [(14, 9), (80, 5), (12, 60), (40, 600)] rfl D1 (by omega) rfl (by decide) (by decide) fun mo lo tt H2 hm ett D2 s2 => ⟨tt, _, rfl, .inl (.inl ett), rfl, _, _, rfl, _, _, rfl, rfl, ?_⟩
  have hml : 1 ≤ mo ∧ mo ≤ 1000 ∧ 1 ≤ lo ∧ lo ≤ 600 := by
    simp at hm
    omega
  clear hm ett
  dsimp only
  refine sq_set ⟨_, rfl, _, rfl, _, rfl, b, qs, _, mo, lo, rfl, D2, by omega, by omega, by omega, by omega, by omega, fun w ws H3 nw s3 D3 ew ht => ?_⟩
  have hwS : w ∉ b :: qs := D2.fresh nw
  have hlen := ht.len
  have hlen1 : 1 ≤ ws.length := List.length_pos_iff.mpr ht.1
  have s13 : Same H H3 := SameS.all s1 hfr (s2.trans s3)
  clear s2 s3 nw D2
  refine sq_set (op_go ⟨_, rfl, draw_ints [12, 40, 600, 1000] rfl D3 (by omega) rfl (by decide) (by decide) fun mn H4 hm D4 s4 => ?_⟩)
  have hml2 : 1 ≤ mn ∧ mn ≤ 1000 := by
    simp at hm
    omega
  refine ⟨b, qs, _, mn, rfl, D4, by omega, by omega, by omega, fun r5 H5 r50 r51 D5 s5 => ⟨_, _, rfl, rfl, ?_⟩⟩
  have ew5 := s5.il hwS (s4.il hwS ew)
  have s15 : Same H H5 := SameS.all s13 hfr (s4.trans s5)
  clear s4 s5 D4 s13 ew hm
  dsimp only
  generalize hwd : 1 + r5 = wd
  have wd1 : 1 ≤ wd := by omega
  have wd2 : wd ≤ 1000 := by omega
  -- begins, whole
  refine ⟨_, rfl, _, rfl, w, ws, wd, 0, rfl, ew5.seq, by omega, by decide, by omega, fun p H6 np s6 e6 => ?_⟩
  refine ⟨_, rfl, _, rfl, wrap_text_ok (ew5.same s6).seq ht wd1 wd2 fun x H7 nx s7 e7 => ⟨_, _, rfl, ?_⟩⟩
  have ew7 := (ew5.same s6).same s7
  have e67 := e6.same s7
  have D7 := (D5.same s6).same s7
  have s17 := s15.trans (s6.trans s7)
  have hpS : p ∉ b :: qs := D5.fresh np
  have hxS : x ∉ b :: qs := (D5.same s6).fresh nx
  have l1 := wrap_firsts_len (w := wd) (show 0 < ws.length by omega)
  have l2 := firstsOf_len ws wd 0
  have l3 : 0 < (firstsOf ws wd 0).length := by
    obtain ⟨es, h, _⟩ := rows_ok (w := wd) (show 0 < ws.length by omega)
    rw [h]
    simp
  clear s6 s7 D5 ew5 s15 np nx
  have e67 : IL H7 p (firstsOf ws wd 0) := e67
  clear e6
  dsimp only
  -- k
  refine sq_set ⟨_, rfl, _, rfl, p, _, rfl, .inl e67.seq, b, qs, _, _, rfl, D7, by omega, by rw [List.length_map]; omega, by rw [List.length_map]; omega, fun k H8 k1 k2 D8 s8 => ?_⟩
  rw [List.length_map] at k2
  have ew8 := s8.il hwS ew7
  have ep8 := s8.il hpS e67
  have ex8 := s8.il hxS e7
  have s18 : Same H H8 := SameS.all s17 hfr s8
  clear s8 D7 s17 ew7 e67 e7
  obtain ⟨f, hf⟩ : ∃ f, (firstsOf ws wd 0)[k.toNat]? = some f := ⟨_, List.getElem?_eq_getElem (by omega)⟩
  have hff := wrap_from_first hf
  obtain ⟨f1, f2⟩ := firstsOf_rng f (List.mem_of_getElem? hf)
  rw [List.drop_zero] at hff
  refine sq_no (fun H' => Same H8 H') (fun Q' k' => ?_) ?_
  · refine ⟨_, rfl, _, rfl, _, rfl, _, rfl, p, _, _, _, rfl, rfl, ep8.seq, atI_int (atI_nn k1 hf), wrap_from_ok ew8.seq ht wd1 wd2 f1 f2 fun x1 H9 n9 s9 e9 => ?_⟩
    refine ⟨_, rfl, _, rfl, _, rfl, x, _, rfl, (ex8.same s9).seq, fun c nc => ?_⟩
    have ecut : cutV (iV (lawWrap ws wd)) (some k) none = iV (lawWrap (ws.drop f.toNat) wd) := by
      rw [cutV_map, cutL_from _ _ k1, hff]
    rw [ecut]
    have hmt := (ht.drop (m := f.toNat) (by omega)).wrap wd
    have nR : Nc (2002 * 300 + 3) 1 _ := Nc.ints hmt.1.len hmt.1.small
    exact nR.neD (dp_ints (e9.new nc)) (dp_ints (show IL _ c _ from upd_same)) (by decide) ⟨_, rfl, k' _ (s9.trans (same_new nc))⟩
  intro H9 s9
  have ew9 := ew8.same s9
  have D9 := D8.same s9
  have s19 := s18.trans s9
  clear s9 D8 ew8 ep8 ex8 s18
  -- pairs
  refine ⟨4, rfl, by decide, by decide, ?_⟩
  refine for_range (lo := 0) (n := 4) (fun i σ H' => ∃ j10, σ = [some (.ref a), some (.ref b), some (.int (0 + (i0 : Int))), some (.int mo), some (.int lo), some (.ref w), some (.int wd), some (.ref p), some (.ref x), some (.int k), j10] ∧ SameS (b :: qs) H9 H' ∧ Deck H' b qs (20000 * i0 + 5100 + 2 * i))
    ⟨_, rfl, SameS.refl _ _, D9.mono (by omega)⟩ ?_ ?_
  case refine_2 =>
    rintro σ H10 ⟨j10, rfl, s10, D10⟩
    have ew10 := s10.il hwS ew9
    dsimp only
    refine if_no (fun H' => SameS (b :: qs) H10 H' ∧ Deck H' b qs (20000 * i0 + 5100 + 2 * 4 + 6000)) (fun Q' k' => ?_) ?_
    case refine_2 => exact fun H' hh => ⟨_, _, _, _, _, _, _, _, _, rfl, SameS.all s19 hfr (s10.trans hh.1), hh.2.mono (by omega)⟩
    exact ⟨_, rfl, _, rfl, _, rfl, b, qs, _, w, ws, wd, rfl, D10, by omega, ew10, hwS, ht, wd1, wd2, fun H' s' D' => ⟨_, rfl, k' _ ⟨s', D'⟩⟩⟩
  rintro i1 σ H10 hi1 ⟨j10, rfl, s10, D10⟩
  have ew10 := s10.il hwS ew9
  refine if_no (fun H' => SameS (b :: qs) H10 H' ∧ Deck H' b qs (20000 * i0 + 5100 + 2 * i1 + 2)) (fun Q' k' => ?_) (fun H' hh => ⟨_, rfl, s10.trans hh.1, hh.2.mono (by omega)⟩)
  refine ⟨_, rfl, _, rfl, _, rfl, _, rfl, w, _, rfl, .inl ew10.seq, b, qs, _, _, rfl, D10, by omega, by rw [List.length_map]; omega, by rw [List.length_map]; omega, fun r1 HA r10 r11 DA sA => ?_⟩
  rw [List.length_map] at r11
  have ewA := sA.il hwS ew10
  refine ⟨_, rfl, _, rfl, w, _, rfl, .inl ewA.seq, b, qs, _, _, rfl, DA, by omega, by rw [List.length_map]; omega, by rw [List.length_map]; omega, fun r2 HB r20 r21 DB sB => ?_⟩
  rw [List.length_map] at r21
  have ewB := sB.il hwS ewA
  exact ⟨w, ws, wd, r1, r2, rfl, ewB, ht, wd1, wd2, r10, r11, r20, r21, fun H' s' => ⟨_, rfl, k' _ ⟨(sA.trans sB).trans (SameS.of s'), DB.same s'⟩⟩⟩
end
/-! ### the head: facts by names -/
def d_is_integer : He.DefD := ⟨("is_integer", none), "is_integer", "is_integer", defArgs (top 10), defBody (top 10), defScope (top 10), [.non], []⟩
def d_is_width : He.DefD := ⟨("is_width", none), "is_width", "is_width", defArgs (top 11), defBody (top 11), defScope (top 11), [], []⟩
def d_total_of : He.DefD := ⟨("total_of", none), "total_of", "total_of", defArgs (top 12), defBody (top 12), defScope (top 12), [], []⟩
def d_are_lengths : He.DefD := ⟨("are_lengths", none), "are_lengths", "are_lengths", defArgs (top 13), defBody (top 13), defScope (top 13), [], []⟩
def d_is_text : He.DefD := ⟨("is_text", none), "is_text", "is_text", defArgs (top 14), defBody (top 14), defScope (top 14), [], []⟩
def d_require_text : He.DefD := ⟨("require_text", none), "require_text", "require_text", defArgs (top 15), defBody (top 15), defScope (top 15), [], []⟩
def d_require_width : He.DefD := ⟨("require_width", none), "require_width", "require_width", defArgs (top 16), defBody (top 16), defScope (top 16), [], []⟩
def d_ends_of : He.DefD := ⟨("ends_of", none), "ends_of", "ends_of", defArgs (top 17), defBody (top 17), defScope (top 17), [], []⟩
def d_starts_of : He.DefD := ⟨("starts_of", none), "starts_of", "starts_of", defArgs (top 18), defBody (top 18), defScope (top 18), [], []⟩
def d_lengths_of : He.DefD := ⟨("lengths_of", none), "lengths_of", "lengths_of", defArgs (top 19), defBody (top 19), defScope (top 19), [], []⟩
def d_wrapped_ends : He.DefD := ⟨("wrapped_ends", none), "wrapped_ends", "wrapped_ends", defArgs (top 20), defBody (top 20), defScope (top 20), [], []⟩
def d_wrap_of : He.DefD := ⟨("wrap_of", none), "wrap_of", "wrap_of", defArgs (top 21), defBody (top 21), defScope (top 21), [], []⟩
def d_wrap_text : He.DefD := ⟨("wrap_text", none), "wrap_text", "wrap_text", defArgs (top 22), defBody (top 22), defScope (top 22), [], []⟩
def d_require_word : He.DefD := ⟨("require_word", none), "require_word", "require_word", defArgs (top 24), defBody (top 24), defScope (top 24), [], []⟩
def d_wrap_from : He.DefD := ⟨("wrap_from", none), "wrap_from", "wrap_from", defArgs (top 25), defBody (top 25), defScope (top 25), [], []⟩
def d_first_words : He.DefD := ⟨("first_words", none), "first_words", "first_words", defArgs (top 26), defBody (top 26), defScope (top 26), [], []⟩
def d_meeting_word : He.DefD := ⟨("meeting_word", none), "meeting_word", "meeting_word", defArgs (top 27), defBody (top 27), defScope (top 27), [], []⟩
def d_replace_words : He.DefD := ⟨("replace_words", none), "replace_words", "replace_words", defArgs (top 28), defBody (top 28), defScope (top 28), [], []⟩
def d_common_count : He.DefD := ⟨("common_count", none), "common_count", "common_count", defArgs (top 29), defBody (top 29), defScope (top 29), [], []⟩
def d_changed_lines : He.DefD := ⟨("changed_lines", none), "changed_lines", "changed_lines", defArgs (top 30), defBody (top 30), defScope (top 30), [], []⟩
def d__law_deck : He.DefD := ⟨("_law_deck", none), "_law_deck", "_law_deck", defArgs (top 32), defBody (top 32), defScope (top 32), [], []⟩
def d__law_draw : He.DefD := ⟨("_law_draw", none), "_law_draw", "_law_draw", defArgs (top 33), defBody (top 33), defScope (top 33), [], []⟩
def d__law_span : He.DefD := ⟨("_law_span", none), "_law_span", "_law_span", defArgs (top 34), defBody (top 34), defScope (top 34), [], []⟩
def d__law_plan : He.DefD := ⟨("_law_plan", none), "_law_plan", "_law_plan", defArgs (top 35), defBody (top 35), defScope (top 35), [], []⟩
def d__law_begins : He.DefD := ⟨("_law_begins", none), "_law_begins", "_law_begins", defArgs (top 36), defBody (top 36), defScope (top 36), [], []⟩
def d__law_pair_right : He.DefD := ⟨("_law_pair_right", none), "_law_pair_right", "_law_pair_right", defArgs (top 37), defBody (top 37), defScope (top 37), [], []⟩
def d__law_edit_right : He.DefD := ⟨("_law_edit_right", none), "_law_edit_right", "_law_edit_right", defArgs (top 38), defBody (top 38), defScope (top 38), [], []⟩
def d_law : He.DefD := ⟨("law", none), "law", "law", defArgs (top 39), defBody (top 39), defScope (top 39), [], []⟩
def fn : List He.DefD := [d_is_integer, d_is_width, d_total_of, d_are_lengths, d_is_text, d_require_text, d_require_width, d_ends_of, d_starts_of, d_lengths_of, d_wrapped_ends, d_wrap_of, d_wrap_text, d_require_word, d_wrap_from, d_first_words, d_meeting_word, d_replace_words, d_common_count, d_changed_lines, d__law_deck, d__law_draw, d__law_span, d__law_plan, d__law_begins, d__law_pair_right, d__law_edit_right, d_law]
def fa : List He.Fa := [.glo "is_integer", .glo "is_width", .glo "total_of", .glo "are_lengths", .glo "is_text", .glo "require_text", .glo "require_width", .glo "ends_of", .glo "starts_of", .glo "lengths_of", .glo "wrapped_ends", .glo "wrap_of", .glo "wrap_text", .glo "require_word", .glo "wrap_from", .glo "first_words", .glo "meeting_word", .glo "replace_words", .glo "common_count", .glo "changed_lines", .glo "_law_deck", .glo "_law_draw", .glo "_law_span", .glo "_law_plan", .glo "_law_begins", .glo "_law_pair_right", .glo "_law_edit_right", .glo "law", .free "all", .free "bool", .free "int", .free "isinstance", .free "len", .free "list", .free "max", .free "min", .free "range", .free "sum", .free "zip", .int "MAX_CHARACTERS" 600, .int "MAX_WIDTH" 1000, .glo "InvalidIndex", .exc "InvalidIndex", .glo "InvalidLengths", .exc "InvalidLengths", .glo "InvalidNumber", .exc "InvalidNumber", .glo "InvalidText", .exc "InvalidText", .glo "InvalidWidth", .exc "InvalidWidth"]
abbrev R : PySem.W.OpenRow := PySem.W.OpenLaw.row PySem.Challenge.rw_wrapclues_k50_whole_meetings_and_edits
abbrev hk : PySem.W.Hook := He.hookD 4 fa fn
def ob (s : PySem.W.SharedT) : He.AlD := He.obsDG 4 fa fn (HandSHeadRun.getT s)
theorem ob_eq (s : PySem.W.SharedT) : ob s = hk.obs s.abs := He.obsDG_eq (HandSHeadRun.getT_eq s)
def loose0 : List Str := ["is_integer", "is_width", "total_of", "are_lengths", "is_text", "require_text", "require_width", "ends_of", "starts_of", "lengths_of", "wrapped_ends", "wrap_of", "wrap_text", "require_word", "wrap_from", "first_words", "meeting_word", "replace_words", "common_count", "changed_lines", "_law_deck", "_law_draw", "_law_span", "_law_plan", "_law_begins", "_law_pair_right", "_law_edit_right", "WrapCluesError", "InvalidText", "InvalidWidth"]
def loose1 : List Str := ["InvalidNumber", "InvalidLengths", "InvalidIndex", "MAX_CHARACTERS", "MAX_WIDTH"]
abbrev loose : List Str := loose0 ++ loose1
theorem run (w : World) : HandSHeadRun.RunEq R (PySem.W.view R.prog [39]) hk ob 3000 loose w := by
  intro os
  kernel_rfl
theorem facts {P : Program} {w : World} {K : PySem.W.Frag} {h : Heap} {mg : Str → Option Value} {f : Addr} (X : K.In h) (G : h.Ns mainGlobals mg) (hfa : mg ("law" : Str) = some (.ref f)) (c : He.SaysD fa fn K) :
    ∃ fd : FuncData, (∀ (s : Shared) (u : Value), BindsTo s fd ⟨[u], []⟩ [("script", u)]) ∧ ∀ base : Heap, K.In base → base.Ns mainGlobals mg → FnG P w K mg base 8 f fd ["script"] (sp_law K) := by
  obtain ⟨fd_is_integer, F_is_integer⟩ := c.def_ 0 (d := d_is_integer) rfl
  obtain ⟨fd_is_width, F_is_width⟩ := c.def_ 1 (d := d_is_width) rfl
  obtain ⟨fd_total_of, F_total_of⟩ := c.def_ 2 (d := d_total_of) rfl
  obtain ⟨fd_are_lengths, F_are_lengths⟩ := c.def_ 3 (d := d_are_lengths) rfl
  obtain ⟨fd_is_text, F_is_text⟩ := c.def_ 4 (d := d_is_text) rfl
  obtain ⟨fd_require_text, F_require_text⟩ := c.def_ 5 (d := d_require_text) rfl
  obtain ⟨fd_require_width, F_require_width⟩ := c.def_ 6 (d := d_require_width) rfl
  obtain ⟨fd_ends_of, F_ends_of⟩ := c.def_ 7 (d := d_ends_of) rfl
  obtain ⟨fd_starts_of, F_starts_of⟩ := c.def_ 8 (d := d_starts_of) rfl
  obtain ⟨fd_lengths_of, F_lengths_of⟩ := c.def_ 9 (d := d_lengths_of) rfl
  obtain ⟨fd_wrapped_ends, F_wrapped_ends⟩ := c.def_ 10 (d := d_wrapped_ends) rfl
  obtain ⟨fd_wrap_of, F_wrap_of⟩ := c.def_ 11 (d := d_wrap_of) rfl
  obtain ⟨fd_wrap_text, F_wrap_text⟩ := c.def_ 12 (d := d_wrap_text) rfl
  obtain ⟨fd_require_word, F_require_word⟩ := c.def_ 13 (d := d_require_word) rfl
  obtain ⟨fd_wrap_from, F_wrap_from⟩ := c.def_ 14 (d := d_wrap_from) rfl
  obtain ⟨fd_first_words, F_first_words⟩ := c.def_ 15 (d := d_first_words) rfl
  obtain ⟨fd_meeting_word, F_meeting_word⟩ := c.def_ 16 (d := d_meeting_word) rfl
  obtain ⟨fd_replace_words, F_replace_words⟩ := c.def_ 17 (d := d_replace_words) rfl
  obtain ⟨fd_common_count, F_common_count⟩ := c.def_ 18 (d := d_common_count) rfl
  obtain ⟨fd_changed_lines, F_changed_lines⟩ := c.def_ 19 (d := d_changed_lines) rfl
  obtain ⟨fd__law_deck, F__law_deck⟩ := c.def_ 20 (d := d__law_deck) rfl
  obtain ⟨fd__law_draw, F__law_draw⟩ := c.def_ 21 (d := d__law_draw) rfl
  obtain ⟨fd__law_span, F__law_span⟩ := c.def_ 22 (d := d__law_span) rfl
  obtain ⟨fd__law_plan, F__law_plan⟩ := c.def_ 23 (d := d__law_plan) rfl
  obtain ⟨fd__law_begins, F__law_begins⟩ := c.def_ 24 (d := d__law_begins) rfl
  obtain ⟨fd__law_pair_right, F__law_pair_right⟩ := c.def_ 25 (d := d__law_pair_right) rfl
  obtain ⟨fd__law_edit_right, F__law_edit_right⟩ := c.def_ 26 (d := d__law_edit_right) rfl
  obtain ⟨fd_law, F_law⟩ := c.def_ 27 (d := d_law) rfl
  have g_is_integer := He.glo_ok X G (c.fact 0 (f := .glo "is_integer") rfl)
  have g_is_width := He.glo_ok X G (c.fact 1 (f := .glo "is_width") rfl)
  have g_total_of := He.glo_ok X G (c.fact 2 (f := .glo "total_of") rfl)
  have g_are_lengths := He.glo_ok X G (c.fact 3 (f := .glo "are_lengths") rfl)
  have g_is_text := He.glo_ok X G (c.fact 4 (f := .glo "is_text") rfl)
  have g_require_text := He.glo_ok X G (c.fact 5 (f := .glo "require_text") rfl)
  have g_require_width := He.glo_ok X G (c.fact 6 (f := .glo "require_width") rfl)
  have g_ends_of := He.glo_ok X G (c.fact 7 (f := .glo "ends_of") rfl)
  have g_starts_of := He.glo_ok X G (c.fact 8 (f := .glo "starts_of") rfl)
  have g_lengths_of := He.glo_ok X G (c.fact 9 (f := .glo "lengths_of") rfl)
  have g_wrapped_ends := He.glo_ok X G (c.fact 10 (f := .glo "wrapped_ends") rfl)
  have g_wrap_of := He.glo_ok X G (c.fact 11 (f := .glo "wrap_of") rfl)
  have g_wrap_text := He.glo_ok X G (c.fact 12 (f := .glo "wrap_text") rfl)
  have g_require_word := He.glo_ok X G (c.fact 13 (f := .glo "require_word") rfl)
  have g_wrap_from := He.glo_ok X G (c.fact 14 (f := .glo "wrap_from") rfl)
  have g_first_words := He.glo_ok X G (c.fact 15 (f := .glo "first_words") rfl)
  have g_meeting_word := He.glo_ok X G (c.fact 16 (f := .glo "meeting_word") rfl)
  have g_replace_words := He.glo_ok X G (c.fact 17 (f := .glo "replace_words") rfl)
  have g_common_count := He.glo_ok X G (c.fact 18 (f := .glo "common_count") rfl)
  have g_changed_lines := He.glo_ok X G (c.fact 19 (f := .glo "changed_lines") rfl)
  have g__law_deck := He.glo_ok X G (c.fact 20 (f := .glo "_law_deck") rfl)
  have g__law_draw := He.glo_ok X G (c.fact 21 (f := .glo "_law_draw") rfl)
  have g__law_span := He.glo_ok X G (c.fact 22 (f := .glo "_law_span") rfl)
  have g__law_plan := He.glo_ok X G (c.fact 23 (f := .glo "_law_plan") rfl)
  have g__law_begins := He.glo_ok X G (c.fact 24 (f := .glo "_law_begins") rfl)
  have g__law_pair_right := He.glo_ok X G (c.fact 25 (f := .glo "_law_pair_right") rfl)
  have g__law_edit_right := He.glo_ok X G (c.fact 26 (f := .glo "_law_edit_right") rfl)
  have g_law := He.glo_ok X G (c.fact 27 (f := .glo "law") rfl)
  have W : Wd K mg := ⟨He.free_ok X G (c.fact 28 (f := .free "all") rfl), He.free_ok X G (c.fact 29 (f := .free "bool") rfl), He.free_ok X G (c.fact 30 (f := .free "int") rfl), He.free_ok X G (c.fact 31 (f := .free "isinstance") rfl), He.free_ok X G (c.fact 32 (f := .free "len") rfl), He.free_ok X G (c.fact 33 (f := .free "list") rfl), He.free_ok X G (c.fact 34 (f := .free "max") rfl), He.free_ok X G (c.fact 35 (f := .free "min") rfl), He.free_ok X G (c.fact 36 (f := .free "range") rfl), He.free_ok X G (c.fact 37 (f := .free "sum") rfl), He.free_ok X G (c.fact 38 (f := .free "zip") rfl), He.int_ok X G (c.fact 39 (f := .int "MAX_CHARACTERS" 600) rfl), He.int_ok X G (c.fact 40 (f := .int "MAX_WIDTH" 1000) rfl), excF_of X G (c.fact 41 (f := .glo "InvalidIndex") rfl) (c.fact 42 (f := .exc "InvalidIndex") rfl), excF_of X G (c.fact 43 (f := .glo "InvalidLengths") rfl) (c.fact 44 (f := .exc "InvalidLengths") rfl), excF_of X G (c.fact 45 (f := .glo "InvalidNumber") rfl) (c.fact 46 (f := .exc "InvalidNumber") rfl), excF_of X G (c.fact 47 (f := .glo "InvalidText") rfl) (c.fact 48 (f := .exc "InvalidText") rfl), excF_of X G (c.fact 49 (f := .glo "InvalidWidth") rfl) (c.fact 50 (f := .exc "InvalidWidth") rfl)⟩
  have e := hfa.symm.trans g_law
  cases e
  have b := FunD.bindsA (ps := ["script"]) F_law fun _ _ _ _ _ _ us hl => match us, hl with | [_], _ => rfl
  refine ⟨fd_law, fun s u => b s [u] rfl, fun base _ _ => ?_⟩
  have o_is_integer : FnOk P w K mg base CX0 1 _ fd_is_integer ["value", "low", "high"] (sp_is_integer K) := ok_is_integer F_is_integer W 
  obtain ⟨ds_c_is_integer, r_c_is_integer, b_c_is_integer⟩ := F_is_integer.binds1 (ps := ["value", "low", "high"]) 3 1 (List.cons_ne_nil _ _) rfl (fun T kV doc pm an cdv ct us its h1 h2 => match us, h1, its, h2 with | [_, _, _], _, [_], _ => ⟨_, rfl, rfl⟩)
  have c_is_integer : Cal P w K mg base CX0 1 "is_integer" ["value", "low", "high"] [] (sp_is_integer K) := ⟨⟨_, _, _, o_is_integer, g_is_integer, F_is_integer.kp, r_c_is_integer, b_c_is_integer⟩⟩
  obtain ⟨ds_c_is_integer_2, r_c_is_integer_2, b_c_is_integer_2⟩ := F_is_integer.binds1 (ps := ["value", "low", "high"]) 2 0 (List.cons_ne_nil _ _) rfl (fun T kV doc pm an cdv ct us its h1 h2 => match us, h1, its, h2 with | [_, _], _, [_], _ => ⟨_, rfl, rfl⟩)
  have c_is_integer_2 : Cal P w K mg base CX0 1 "is_integer" ["value", "low", "high"] [.non] (sp_is_integer K) := ⟨⟨_, _, _, o_is_integer, g_is_integer, F_is_integer.kp, r_c_is_integer_2, b_c_is_integer_2⟩⟩
  have o_is_width : FnOk P w K mg base CX0 2 _ fd_is_width ["value"] (sp_is_width K) := ok_is_width F_is_width W c_is_integer
  have c_is_width : Cal P w K mg base CX0 2 "is_width" ["value"] [] (sp_is_width K) := ⟨⟨_, _, _, o_is_width, g_is_width, F_is_width.kp, .nil, F_is_width.bindsN (fun _ _ _ _ _ _ us hl => match us, hl with | [_], _ => rfl)⟩⟩
  have o_total_of : FnOk P w K mg base CX0 1 _ fd_total_of ["lengths"] (sp_total_of K) := ok_total_of F_total_of W 
  have c_total_of : Cal P w K mg base CX0 1 "total_of" ["lengths"] [] (sp_total_of K) := ⟨⟨_, _, _, o_total_of, g_total_of, F_total_of.kp, .nil, F_total_of.bindsN (fun _ _ _ _ _ _ us hl => match us, hl with | [_], _ => rfl)⟩⟩
  have o_are_lengths : FnOk P w K mg base CX0 2 _ fd_are_lengths ["value"] (sp_are_lengths K) := ok_are_lengths F_are_lengths W c_total_of c_is_integer_2
  have c_are_lengths : Cal P w K mg base CX0 2 "are_lengths" ["value"] [] (sp_are_lengths K) := ⟨⟨_, _, _, o_are_lengths, g_are_lengths, F_are_lengths.kp, .nil, F_are_lengths.bindsN (fun _ _ _ _ _ _ us hl => match us, hl with | [_], _ => rfl)⟩⟩
  have o_is_text : FnOk P w K mg base CX0 3 _ fd_is_text ["value"] (sp_is_text K) := ok_is_text F_is_text W c_are_lengths
  have c_is_text : Cal P w K mg base CX0 3 "is_text" ["value"] [] (sp_is_text K) := ⟨⟨_, _, _, o_is_text, g_is_text, F_is_text.kp, .nil, F_is_text.bindsN (fun _ _ _ _ _ _ us hl => match us, hl with | [_], _ => rfl)⟩⟩
  have o_require_text : FnOk P w K mg base (L2.CX P w) 4 _ fd_require_text ["text"] (sp_require_text K) := ok_require_text F_require_text W c_is_text
  have c_require_text : Cal P w K mg base (L2.CX P w) 4 "require_text" ["text"] [] (sp_require_text K) := ⟨⟨_, _, _, o_require_text, g_require_text, F_require_text.kp, .nil, F_require_text.bindsN (fun _ _ _ _ _ _ us hl => match us, hl with | [_], _ => rfl)⟩⟩
  have o_require_width : FnOk P w K mg base (L2.CX P w) 3 _ fd_require_width ["width"] (sp_require_width K) := ok_require_width F_require_width W c_is_width
  have c_require_width : Cal P w K mg base (L2.CX P w) 3 "require_width" ["width"] [] (sp_require_width K) := ⟨⟨_, _, _, o_require_width, g_require_width, F_require_width.kp, .nil, F_require_width.bindsN (fun _ _ _ _ _ _ us hl => match us, hl with | [_], _ => rfl)⟩⟩
  have o_ends_of : FnOk P w K mg base CX0 1 _ fd_ends_of ["lengths"] (sp_ends_of K) := ok_ends_of F_ends_of W 
  have c_ends_of : Cal P w K mg base CX0 1 "ends_of" ["lengths"] [] (sp_ends_of K) := ⟨⟨_, _, _, o_ends_of, g_ends_of, F_ends_of.kp, .nil, F_ends_of.bindsN (fun _ _ _ _ _ _ us hl => match us, hl with | [_], _ => rfl)⟩⟩
  have o_starts_of : FnOk P w K mg base CX0 1 _ fd_starts_of ["ends"] (sp_starts_of K) := ok_starts_of F_starts_of W 
  have c_starts_of : Cal P w K mg base CX0 1 "starts_of" ["ends"] [] (sp_starts_of K) := ⟨⟨_, _, _, o_starts_of, g_starts_of, F_starts_of.kp, .nil, F_starts_of.bindsN (fun _ _ _ _ _ _ us hl => match us, hl with | [_], _ => rfl)⟩⟩
  have o_lengths_of : FnOk P w K mg base CX0 2 _ fd_lengths_of ["ends"] (sp_lengths_of K) := ok_lengths_of F_lengths_of W c_starts_of
  have c_lengths_of : Cal P w K mg base CX0 2 "lengths_of" ["ends"] [] (sp_lengths_of K) := ⟨⟨_, _, _, o_lengths_of, g_lengths_of, F_lengths_of.kp, .nil, F_lengths_of.bindsN (fun _ _ _ _ _ _ us hl => match us, hl with | [_], _ => rfl)⟩⟩
  have o_wrapped_ends : FnOk P w K mg base CX0 1 _ fd_wrapped_ends ["stops", "width"] (sp_wrapped_ends K) := ok_wrapped_ends F_wrapped_ends W 
  have c_wrapped_ends : Cal P w K mg base CX0 1 "wrapped_ends" ["stops", "width"] [] (sp_wrapped_ends K) := ⟨⟨_, _, _, o_wrapped_ends, g_wrapped_ends, F_wrapped_ends.kp, .nil, F_wrapped_ends.bindsN (fun _ _ _ _ _ _ us hl => match us, hl with | [_, _], _ => rfl)⟩⟩
  have o_wrap_of : FnOk P w K mg base CX0 3 _ fd_wrap_of ["text", "width"] (sp_wrap_of K) := ok_wrap_of F_wrap_of W c_lengths_of c_wrapped_ends c_ends_of
  have c_wrap_of : Cal P w K mg base CX0 3 "wrap_of" ["text", "width"] [] (sp_wrap_of K) := ⟨⟨_, _, _, o_wrap_of, g_wrap_of, F_wrap_of.kp, .nil, F_wrap_of.bindsN (fun _ _ _ _ _ _ us hl => match us, hl with | [_, _], _ => rfl)⟩⟩
  have o_wrap_text : FnOk P w K mg base (L2.CX P w) 5 _ fd_wrap_text ["text", "width"] (sp_wrap_text K) := ok_wrap_text F_wrap_text W c_wrap_of c_require_width c_require_text
  have c_wrap_text : Cal P w K mg base (L2.CX P w) 5 "wrap_text" ["text", "width"] [] (sp_wrap_text K) := ⟨⟨_, _, _, o_wrap_text, g_wrap_text, F_wrap_text.kp, .nil, F_wrap_text.bindsN (fun _ _ _ _ _ _ us hl => match us, hl with | [_, _], _ => rfl)⟩⟩
  have o_require_word : FnOk P w K mg base (L2.CX P w) 2 _ fd_require_word ["text", "word"] (sp_require_word K) := ok_require_word F_require_word W c_is_integer
  have c_require_word : Cal P w K mg base (L2.CX P w) 2 "require_word" ["text", "word"] [] (sp_require_word K) := ⟨⟨_, _, _, o_require_word, g_require_word, F_require_word.kp, .nil, F_require_word.bindsN (fun _ _ _ _ _ _ us hl => match us, hl with | [_, _], _ => rfl)⟩⟩
  have o_wrap_from : FnOk P w K mg base (L2.CX P w) 6 _ fd_wrap_from ["text", "width", "word"] (sp_wrap_from K) := ok_wrap_from F_wrap_from W c_wrap_text c_require_word c_require_width c_require_text
  have c_wrap_from : Cal P w K mg base (L2.CX P w) 6 "wrap_from" ["text", "width", "word"] [] (sp_wrap_from K) := ⟨⟨_, _, _, o_wrap_from, g_wrap_from, F_wrap_from.kp, .nil, F_wrap_from.bindsN (fun _ _ _ _ _ _ us hl => match us, hl with | [_, _, _], _ => rfl)⟩⟩
  have o_first_words : FnOk P w K mg base CX0 1 _ fd_first_words ["text", "width", "word"] (sp_first_words K) := ok_first_words F_first_words W 
  have c_first_words : Cal P w K mg base CX0 1 "first_words" ["text", "width", "word"] [] (sp_first_words K) := ⟨⟨_, _, _, o_first_words, g_first_words, F_first_words.kp, .nil, F_first_words.bindsN (fun _ _ _ _ _ _ us hl => match us, hl with | [_, _, _], _ => rfl)⟩⟩
  have o_meeting_word : FnOk P w K mg base (L2.CX P w) 5 _ fd_meeting_word ["text", "width", "first", "second"] (sp_meeting_word K) := ok_meeting_word F_meeting_word W c_first_words c_require_word c_require_width c_require_text
  have c_meeting_word : Cal P w K mg base (L2.CX P w) 5 "meeting_word" ["text", "width", "first", "second"] [] (sp_meeting_word K) := ⟨⟨_, _, _, o_meeting_word, g_meeting_word, F_meeting_word.kp, .nil, F_meeting_word.bindsN (fun _ _ _ _ _ _ us hl => match us, hl with | [_, _, _, _], _ => rfl)⟩⟩
  have o_replace_words : FnOk P w K mg base (L2.CX P w) 5 _ fd_replace_words ["text", "first", "count", "words"] (sp_replace_words K) := ok_replace_words F_replace_words W c_is_text c_is_integer c_require_text
  have c_replace_words : Cal P w K mg base (L2.CX P w) 5 "replace_words" ["text", "first", "count", "words"] [] (sp_replace_words K) := ⟨⟨_, _, _, o_replace_words, g_replace_words, F_replace_words.kp, .nil, F_replace_words.bindsN (fun _ _ _ _ _ _ us hl => match us, hl with | [_, _, _, _], _ => rfl)⟩⟩
  have o_common_count : FnOk P w K mg base CX0 1 _ fd_common_count ["one", "other"] (sp_common_count K) := ok_common_count F_common_count W 
  have c_common_count : Cal P w K mg base CX0 1 "common_count" ["one", "other"] [] (sp_common_count K) := ⟨⟨_, _, _, o_common_count, g_common_count, F_common_count.kp, .nil, F_common_count.bindsN (fun _ _ _ _ _ _ us hl => match us, hl with | [_, _], _ => rfl)⟩⟩
  have o_changed_lines : FnOk P w K mg base (L2.CX P w) 6 _ fd_changed_lines ["text", "other", "width"] (sp_changed_lines K) := ok_changed_lines F_changed_lines W c_common_count c_wrap_text c_require_width c_require_text
  have c_changed_lines : Cal P w K mg base (L2.CX P w) 6 "changed_lines" ["text", "other", "width"] [] (sp_changed_lines K) := ⟨⟨_, _, _, o_changed_lines, g_changed_lines, F_changed_lines.kp, .nil, F_changed_lines.bindsN (fun _ _ _ _ _ _ us hl => match us, hl with | [_, _, _], _ => rfl)⟩⟩
  have o__law_deck : FnOk P w K mg base CX0 1 _ fd__law_deck ["script"] (sp__law_deck K) := ok__law_deck F__law_deck W 
  have c__law_deck : Cal P w K mg base CX0 1 "_law_deck" ["script"] [] (sp__law_deck K) := ⟨⟨_, _, _, o__law_deck, g__law_deck, F__law_deck.kp, .nil, F__law_deck.bindsN (fun _ _ _ _ _ _ us hl => match us, hl with | [_], _ => rfl)⟩⟩
  have o__law_draw : FnOk P w K mg base CX0 1 _ fd__law_draw ["deck", "many"] (sp__law_draw K) := ok__law_draw F__law_draw W 
  have c__law_draw : Cal P w K mg base CX0 1 "_law_draw" ["deck", "many"] [] (sp__law_draw K) := ⟨⟨_, _, _, o__law_draw, g__law_draw, F__law_draw.kp, .nil, F__law_draw.bindsN (fun _ _ _ _ _ _ us hl => match us, hl with | [_, _], _ => rfl)⟩⟩
  have o__law_span : FnOk P w K mg base CX0 1 _ fd__law_span ["sizes"] (sp__law_span K) := ok__law_span F__law_span W 
  have c__law_span : Cal P w K mg base CX0 1 "_law_span" ["sizes"] [] (sp__law_span K) := ⟨⟨_, _, _, o__law_span, g__law_span, F__law_span.kp, .nil, F__law_span.bindsN (fun _ _ _ _ _ _ us hl => match us, hl with | [_], _ => rfl)⟩⟩
  have o__law_plan : FnOk P w K mg base CX0 2 _ fd__law_plan ["deck", "most", "longest"] (sp__law_plan K) := ok__law_plan F__law_plan W c__law_draw c__law_span
  have c__law_plan : Cal P w K mg base CX0 2 "_law_plan" ["deck", "most", "longest"] [] (sp__law_plan K) := ⟨⟨_, _, _, o__law_plan, g__law_plan, F__law_plan.kp, .nil, F__law_plan.bindsN (fun _ _ _ _ _ _ us hl => match us, hl with | [_, _, _], _ => rfl)⟩⟩
  have o__law_begins : FnOk P w K mg base CX0 1 _ fd__law_begins ["plan", "wide", "at"] (sp__law_begins K) := ok__law_begins F__law_begins W 
  have c__law_begins : Cal P w K mg base CX0 1 "_law_begins" ["plan", "wide", "at"] [] (sp__law_begins K) := ⟨⟨_, _, _, o__law_begins, g__law_begins, F__law_begins.kp, .nil, F__law_begins.bindsN (fun _ _ _ _ _ _ us hl => match us, hl with | [_, _, _], _ => rfl)⟩⟩
  have o__law_pair_right : FnOk P w K mg base CX0 7 _ fd__law_pair_right ["plan", "wide", "at", "to"] (sp__law_pair_right K) := ok__law_pair_right F__law_pair_right W c_wrap_from c_meeting_word c__law_begins
  have c__law_pair_right : Cal P w K mg base CX0 7 "_law_pair_right" ["plan", "wide", "at", "to"] [] (sp__law_pair_right K) := ⟨⟨_, _, _, o__law_pair_right, g__law_pair_right, F__law_pair_right.kp, .nil, F__law_pair_right.bindsN (fun _ _ _ _ _ _ us hl => match us, hl with | [_, _, _, _], _ => rfl)⟩⟩
  have o__law_edit_right : FnOk P w K mg base CX0 7 _ fd__law_edit_right ["deck", "plan", "wide"] (sp__law_edit_right K) := ok__law_edit_right F__law_edit_right W c_changed_lines c__law_begins c_wrap_text c_replace_words c__law_span c__law_plan c__law_draw
  have c__law_edit_right : Cal P w K mg base CX0 7 "_law_edit_right" ["deck", "plan", "wide"] [] (sp__law_edit_right K) := ⟨⟨_, _, _, o__law_edit_right, g__law_edit_right, F__law_edit_right.kp, .nil, F__law_edit_right.bindsN (fun _ _ _ _ _ _ us hl => match us, hl with | [_, _, _], _ => rfl)⟩⟩
  exact ok_law F_law W c__law_edit_right c__law_pair_right c__law_draw c_wrap_from c_wrap_text c__law_begins c__law_plan c__law_deck
end Wc
open PySem PySem.W PySem.Calls PyProof.Rows
theorem PySem.Challenge.cw_wrapclues_k50_whole_meetings_and_edits_holds : PySem.Challenge.rw_wrapclues_k50_whole_meetings_and_edits.Holds := by
  w_on; o_law
  refine HandSHeadRun.head_any (r := OpenLaw.row PySem.Challenge.rw_wrapclues_k50_whole_meetings_and_edits) (q := view (OpenLaw.row PySem.Challenge.rw_wrapclues_k50_whole_meetings_and_edits).prog [39]) (H := Wc.hk) (ob := Wc.ob) (M := 3000) (loose := Wc.loose) (d := HandSHeadRun.topDef (OpenLaw.row PySem.Challenge.rw_wrapclues_k50_whole_meetings_and_edits).prog 39) (kwd := []) Wc.ob_eq
    (by kernel_rfl) (fun s => by kernel_rfl) Wc.run (by kernel_rfl) (by kernel_rfl) (by kernel_rfl) (by rfl) (by first | assumption | decide +kernel) (by decide +kernel) ⟨rfl, rfl, rfl, rfl, rfl, by decide +kernel⟩ ?hw ?hc
  case hw => w_witness2
  case hc =>
    refine Wc.walk_ofG (l := PySem.Challenge.rw_wrapclues_k50_whole_meetings_and_edits) (n := 63) (k := 8) (x := "script") rfl (by decide) (by kernel_rfl) ⟨rfl, by decide, by decide⟩ ?F
    intro w mg fa h Y G hmg0
    obtain ⟨K, KX, c⟩ := Y
    have hmg : mg ("law" : PySem.Str) = some (.ref fa) := by
      have e : (HandSHeadRun.topDef (OpenLaw.row PySem.Challenge.rw_wrapclues_k50_whole_meetings_and_edits).prog 39).name = ("law" : PySem.Str) := by kernel_rfl
      rw [← e]
      exact hmg0
    obtain ⟨fd, hb, hF⟩ := Wc.facts (P := (PySem.Challenge.rw_wrapclues_k50_whole_meetings_and_edits).prog) (w := w) KX G hmg c
    exact ⟨K, fd, Wc.sp_law K, KX, hb, fun H a ns hl hbits _ hS => ⟨a, ns, rfl, hS, hl, hbits, fun _ => rfl⟩, hF⟩
#print axioms PySem.Challenge.cw_wrapclues_k50_whole_meetings_and_edits_holds

