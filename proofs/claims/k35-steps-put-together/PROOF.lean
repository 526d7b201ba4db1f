import PyProof.Rows.All
import Wide.All
import OpenK.AllK
import Wide.FinOn
import HandS.ForMost
import HandS.Gcd
import HandS.IsInst
import HandS.Wide
import HandS.Flow
import HandS.Style
import KE.KeyNested
import KE.KDictKeyed
import KE.SortData
import HandS.Zip
import HandS.TupLe
import PyProof.Rows.RuleB_bool
import KE.DataEq
import PyProof.P3In
import PyProof.Rows.InDataRows
import HandS.Steps
import HandS.TryOnly
import KE.KExcSuper
import HandS.Exc
import HandS.ExcOwn
import HandS.WordsExc
import HandS.Flt
import HandS.TupAny
import KE.KDictWalk
import KE.KDictItemsList
import KE.KDictCopyH
import HandS.ReCall
import HandS.DictComp
import HandS.TupMul
import HandS.Star
import HandS.SlotsOwn
import KE.KDictPairs
import KE.KDictSum
import KE.KEqDict
import PyProof.InstNe
import HandS.OwnEq
import PyProof.NeKinds
import PySem.Challenge.RW_plateheaps_k35_steps_put_together
set_option Elab.async false
set_option linter.all false
set_option maxRecDepth 100000
set_option maxHeartbeats 4000000
/-! Pg0: a def's promise kept where no display of a value is under way (so that repr is told), calls of such defs, the end of a law. -/
namespace Pg
open PySem PySem.Spec PyProof.Rows L2

/-- a def's promise, for calls with no guard on the stack -/
structure FnG (CX : CXT) (P : Program) (w : World) (K : PySem.W.Frag) (mg : Str → Option Value) (base : Heap)
    (k : Nat) (f : Addr) (fd : FuncData) (ps : List Str) (sp : Sp) : Prop where
  arity : ∀ vs H Q E, sp vs H Q E → vs.length = ps.length
  runs : ∀ (A : Around) (outer : List Env) (s : Shared) (H : Hp) (args : Args)
    (us : List Value) (vs : List V) (Q : VK) (E : XK), A.guards = some [] → Room k A →
    Env0 P w K mg base A outer s H → BindsTo s fd args (ps.zip us) → Vals vs us → sp vs H Q E →
    codeAny (model P w) A (.call (.ref f) args) (CR CX outer P w H s Q E) s

theorem FnG.of_body {CX : CXT} {P : Program} {w : World} {K : PySem.W.Frag} {mg : Str → Option Value} {base : Heap}
    {k : Nat} {f : Addr} {x q : Str} {pa : Arguments} {body : List Stmt} {sc : Scope}
    {oc kV dc pm cdv ct : Value} {an od : Option Addr} {sl : Array (Option Value)} {N ps : List Str} {sp : Sp}
    (lk : K.lookup f = some ⟨oc, od, .func (PySem.W.fnOf x q pa body sc .none kV dc pm an cdv ct), sl⟩)
    (hc : PySem.W.codeIn K cdv q = true) (S : FnScope N ps sc) (ar : ∀ vs H Q E, sp vs H Q E → vs.length = ps.length)
    (main : ∀ (A : Around) (outer : List Env) (s : Shared) (H : Hp) (vs : List V) (Q : VK) (E : XK), A.guards = some [] →
      Room k (A.deeper (envOfC q sc s.heap.objs.size f cdv)) → sp vs H Q E →
      ∃ t, PSs (cxOf CX P w K mg base N q sc f cdv A outer s H E) body t ∧
        t { nx := fun _ h => Q .non h, rt := Q } (start N vs) H) :
    FnG CX P w K mg base (k + 1) f (PySem.W.fnOf x q pa body sc .none kV dc pm an cdv ct) ps sp := by
  constructor
  · exact ar
  intro A outer s H args us vs Q E gd rm env bnd rel spq
  have n1 := ar _ _ _ _ spq
  have stay : ∀ b o, base.get? b = some o → s.heap.get? b = some o := fun b o e => (env.bs b o e).1
  have kin := env.mod.kin.keeps stay
  have lim := env.mod.nolimit.keeps stay
  obtain ⟨t, pt, qt⟩ := main A outer s H vs Q E gd (rm.deeper _) spq
  refine codeAny_call_function rm.depth (kin _ _ lk) rfl S.co S.gen rfl (PySem.W.codeRec_of kin hc) (bnd _ _ _ _ ?_)
  refine wpAny_newFunctionEnv_cells S.kind ?_ ?_
  · rintro ⟨n, v⟩ mem
    cases S.par n (List.of_mem_zip mem).1 with
    | inl z => exact .inl z
    | inr z => exact .inr ⟨z, PySem.W.cellsFrom_some _ _ _ (.inl z)⟩
  · intro env' ee s1 inC
    subst ee
    refine ⟨lim.keeps inC.toInCall.keep, codeAny_func ?_⟩
    have I := inv_start (CX := CX) (mg := mg) (base := base) (E := E) S rm.hd env n1 rel inC
    refine wpAny_mono (pt.run [] s1 (start N vs) H _ I qt) ?_ (fun _ _ z => z)
    intro fl s' out
    cases fl with
    | next =>
      obtain ⟨_, H', J, z⟩ := out
      exact ⟨V.non, H', J.os, J.bare, J.base, J.hok, rfl, z⟩
    | ret u =>
      obtain ⟨v, _, H', J, rv, z⟩ := out
      exact ⟨v, H', J.os, J.bare, J.base, J.hok, rv, z⟩
    | brk => exact out.elim fun _ z => z.elim fun _ z => z.2.elim
    | cont => exact out.elim fun _ z => z.elim fun _ z => z.2.elim

/-- the rule for a def of the text that lets no exception out -/
theorem FnG.of_fun {P : Program} {w : World} {K : PySem.W.Frag} {mg : Str → Option Value} {base : Heap}
    {x q : Str} {st : Stmt} {f : Addr} {fd : FuncData} {N ps : List Str} {k : Nat} {sp : Sp}
    (F : Fun K x q st f fd) (S : FnScope N ps (defScope st)) (ar : ∀ vs H Q E, sp vs H Q E → vs.length = ps.length)
    (main : ∀ (cdv : Value) (A : Around) (outer : List Env) (s : Shared) (H : Hp) (vs : List V) (Q : VK) (E : XK),
      A.guards = some [] → Room k (A.deeper (envOfC q (defScope st) s.heap.objs.size f cdv)) → sp vs H Q E →
      ∃ t, PSs (cxOf CX0 P w K mg base N q (defScope st) f cdv A outer s H E).nox (defBody st) t ∧
        t { nx := fun _ h => Q .non h, rt := Q } (start N vs) H) : FnG CX0 P w K mg base (k + 1) f fd ps sp := by
  obtain ⟨_, _, _, _, _, _, cdv, _, _, rfl, lk, hcd⟩ := F.ex
  refine FnG.of_body lk hcd S ar ?_
  intro A outer s H vs Q E gd rm z
  obtain ⟨t, a, b⟩ := main cdv A outer s H vs Q E gd rm z
  exact ⟨t, a.nox, b⟩

/-- a def of the module that may be called by its name: its promise and what a call of it needs -/
structure Cal (P : Program) (w : World) (K : PySem.W.Frag) (mg : Str → Option Value) (base : Heap)
    (k : Nat) (x : Str) (ps : List Str) (sp : Sp) : Prop where
  ex : ∃ (f : Addr) (fd : FuncData), FnG CX0 P w K mg base k f fd ps sp ∧ mg x = some (.ref f) ∧
    PySem.W.keepIn K (.ref f) = true ∧ Binds K fd ps []

section
variable {X : Cx} {k : Nat} {x : Str} {ps : List Str} {sp : Sp} {p pos : Pos} {e : Expr} {es : List Expr} {t : TA}
/-- a call: the arguments, then the promise -/
def tGo (sp : Sp) (t : TA) : TE := fun σ H Q => t σ H fun vs H1 => sp vs H1 Q E0

theorem Cal.run (C : Cal X.prog X.w X.K X.mg X.base k x ps sp) (hr : Room k X.A) (gd : X.A.guards = some []) :
    ∃ f : Addr, X.mg x = some (.ref f) ∧ PySem.W.keepIn X.K (.ref f) = true ∧
      ∀ (pins : List (Addr × Obj)) (σ : L2.St) (H : Hp) (s : Shared) (Q : VK) (us : List Value) (vs : List V),
        Inv X pins σ H s → Vals vs us → sp vs H Q E0 →
        wpAny (model X.prog X.w) X.A (call (.ref f) us) (EP X pins σ Q) X.xe s := by
  obtain ⟨f, fd, F, hm, hk, hb⟩ := C.ex
  refine ⟨f, hm, hk, ?_⟩
  intro pins σ H s Q us vs I r h
  have n1 : us.length = ps.length := by
    rw [← r.length]
    exact F.arity _ _ _ _ h
  have b1 := hb s us I.kIn (by simpa using n1)
  rw [List.append_nil] at b1
  refine wpAny_call (codeAny_mono (F.runs X.A X.stack s H ⟨us, []⟩ us vs Q E0 gd hr I.env0 b1 r h) ?_)
  intro res s' out
  match res, out with
  | .ok (.ret u), out => exact I.after out
  | .ok .next, out => exact False.elim out
  | .ok .brk, out => exact False.elim out
  | .ok .cont, out => exact False.elim out
  | .error _, out => exact False.elim out

theorem pe_c (C : Cal X.prog X.w X.K X.mg X.base k x ps sp) (hr : Room k X.A) (gd : X.A.guards = some []) (hg : Gl X x)
    (ha : PA X (e :: es) t) (hdb : (x == ("__debug__" : Str)) = false := by decide)
    (he : starEach (e :: es) X.env = (false, eval e X.env) :: starEach es X.env := by rfl)
    (hpl : (backTo pos (starEach es X.env)).any (·.1) = false := by rfl) :
    PE X (.Call (.Name x p) (e :: es) [] pos) (tGo sp t) := by
  obtain ⟨f, hm, hk, run⟩ := C.run hr gd
  constructor
  intro pins s σ H Q I h
  apply wpAny_Call_Name_kw
  refine ld_glob I hg hm ?_ hdb
  refine PySem.W.callWith_K (h₀ := X.base) I.ok.mod.kin hk (thn (ha.run pos pins s σ H _ I h) ?_) he hpl
  rintro us s1 ⟨vs, H1, I1, r, q⟩
  exact ⟨I1.kIn, run pins σ H1 s1 Q us vs I1 r q⟩
end

/-! ### the end of a law -/
/-- what is tracked at the law's entry: the script alone, if the top does not own it -/
def entryHp (K : PySem.W.Frag) (a : Addr) (vs : List Value) (ns : List Int) : Hp := fun b =>
  if b = a ∧ K.lookup a = none then some (.frz { cls := .type "list", data := .seq vs.toArray } (.lst (ns.map V.int))) else none

theorem law_end {P : Program} {w : World} {K : PySem.W.Frag} {mg mb : Str → Option Value} {k : Nat} {fa a : Addr}
    {fd : FuncData} {x : Str} {sp : Sp} {s₁ : Shared} {vs : List Value} {ns : List Int}
    (kin : K.In s₁.heap) (hns : s₁.heap.Ns mainGlobals mg) (hb : s₁.heap.Ns builtinsNs mb)
    (hbb : ∀ x : Str, x ≠ "__name__" → mb x = bootBuiltins x) (lim : s₁.heap.NoLimit) (hg : s₁.gens = #[])
    (ha : s₁.heap.get? a = some { cls := .type "list", data := .seq vs.toArray }) (hi : IntsAre vs ns)
    (hl : ns.length ≤ sizeLine) (hr : Room k callerA)
    (F : ∀ base : Heap, K.In base → base.Ns mainGlobals mg → FnG CX0 P w K mg base k fa fd [x] sp)
    (bind : ∀ (s : Shared) (u : Value), BindsTo s fd ⟨[u], []⟩ [(x, u)])
    (hsp : ∀ H : Hp, Only H → SqL K H a (ns.map V.int) → sp [.ref a] H (fun v _ => v = .bl true) fun _ _ _ => False) :
    codeAny (model P w) callerA (.call (.ref fa) ⟨[.ref a], []⟩)
      (fun r s' => r = .ok (.ret (.bool true)) ∧ OldK s₁.heap s'.heap ∧ s'.os = s₁.os ∧ AllBare s'.gens) s₁ := by
  have rv := vals_ints hi
  have nl := hi.length
  generalize eH : entryHp K a vs ns = H
  have at1 : ∀ b u, H b = some u → b = a ∧ K.lookup a = none ∧
      u = .frz { cls := .type "list", data := .seq vs.toArray } (.lst (ns.map V.int)) := by
    intro b u z
    rw [← eH] at z
    unfold entryHp at z
    split at z
    · rename_i c
      exact ⟨c.1, c.2, (Option.some.inj z).symm⟩
    · cases z
  have only : Only H := by
    intro b
    cases z : H b with
    | none => exact .inl rfl
    | some u => exact .inr ⟨_, _, by rw [(at1 b u z).2.2]⟩
  have seq : SqL K H a (ns.map V.int) := by
    cases z : K.lookup a with
    | none =>
      refine .inl (.inr ⟨{ cls := .type "list", data := .seq vs.toArray }, ?_⟩)
      rw [← eH]
      exact if_pos ⟨rfl, z⟩
    | some o =>
      have same := kin a o z
      rw [ha] at same
      cases same
      exact .inr ⟨_, vs.toArray, _, z, rfl, rfl, rfl, by rw [List.size_toArray, nl]; exact hl, by simpa using rv⟩
  have held : HOk P w H s₁.heap := by
    intro b u z
    obtain ⟨rfl, _, rfl⟩ := at1 b u z
    exact ⟨ha, by rw [List.length_map]; exact hl, vs, _, rv, ha⟩
  have notDict : ∀ {b : Addr} {o : Obj} {es : Array DictEntry} {ep : Nat}, s₁.heap.get? b = some o → o.data = .dict es ep → H b = none := by
    intro b o es ep e1 e2
    cases z : H b with
    | none => rfl
    | some u =>
      obtain ⟨rfl, _, _⟩ := at1 b u z
      rw [ha] at e1
      cases e1
      cases e2
  have nsOf : ∀ {b : Addr} {m : Str → Option Value}, s₁.heap.Ns b m → (hidT s₁.heap H).Ns b m := by
    rintro b m ⟨o, es, ep, e1, e2, r⟩
    exact ⟨o, es, ep, hidT_get e1 (notDict e1 e2), e2, r⟩
  have kb : K.In (hidT s₁.heap H) := by
    intro b o e1
    refine hidT_get (kin b o e1) ?_
    cases z : H b with
    | none => rfl
    | some u =>
      obtain ⟨rfl, n, _⟩ := at1 b u z
      rw [n] at e1
      cases e1
  have md : Mod K mg (hidT s₁.heap H) := by
    refine ⟨kb, nsOf hns, ⟨mb, nsOf hb, hbb⟩, ?_⟩
    obtain ⟨mc, h1, h2⟩ := lim
    exact ⟨mc, nsOf h1, h2⟩
  have no0 : ∀ b : Addr, b ∈ frs ([] : List Env) → False := fun b z => by cases z
  have env : Env0 P w K mg (hidT s₁.heap H) callerA [] s₁ H :=
    ⟨rfl, md, fun b o e => of_hidT e, Nat.le_of_eq (hidT_size _ _), trivial, fun b z => (no0 b z).elim, held, .of_eq hg⟩
  have run := (F _ kb (nsOf hns)).runs callerA [] s₁ H ⟨[.ref a], []⟩ [.ref a] [.ref a] _ _ rfl hr env
    (bind s₁ (.ref a)) (.cons rfl .nil) (hsp H only seq)
  refine codeAny_mono run ?_
  intro res s' out
  match res, out with
  | .ok .next, out => exact False.elim out
  | .ok .brk, out => exact False.elim out
  | .ok .cont, out => exact False.elim out
  | .error _, out => exact False.elim out
  | .ok (.ret u), out =>
    obtain ⟨v, H', os, bare, un, held', rel, q⟩ := out
    have q2 : v = .bl true := q
    subst q2
    have q3 : u = Value.bool true := rel
    subst q3
    refine ⟨rfl, OldK.of_keep ?_, os, bare⟩
    intro b o e1
    cases z : H b with
    | none => exact un.keep b o e1 z (fun m => no0 b m) (fun m => by cases m)
    | some u =>
      obtain ⟨rfl, _, rfl⟩ := at1 b u z
      have z2 := held' _ _ (un.frzs _ _ _ z)
      rw [ha] at e1
      cases e1
      exact z2.1

theorem walk_end {l : PySem.W.OpenLaw} {n k : Nat} {q : Program} {loose : List Str} {XP : (Str → Option Value) → Heap → Prop}
    {YP : World → Heap → Prop} {d : DefRec} {K : Params → PySem.W.Frag} {sp : World → Sp} {x : Str}
    (hn : l.most = some n) (hn2 : n ≤ sizeLine) (hdf : d.params.defaults = []) (hr : Room k callerA)
    (hY : ∀ (w : World) (h : Heap), YP w h → (K w.params).In h)
    (F : ∀ (w : World) (mg : Str → Option Value) (fa : Addr) (h : Heap), (K w.params).In h → h.Ns mainGlobals mg →
      mg d.name = some (.ref fa) → ∃ fd : FuncData, (∀ (s : Shared) (u : Value), BindsTo s fd ⟨[u], []⟩ [(x, u)]) ∧
        ∀ base : Heap, (K w.params).In base → base.Ns mainGlobals mg →
          FnG CX0 l.prog w (K w.params) mg base k fa fd [x] (sp w))
    (hsp : ∀ (w : World) (H : Hp) (a : Addr) (ns : List Int), ns.length ≤ n → Only H →
      SqL (K w.params) H a (ns.map V.int) → sp w [.ref a] H (fun v _ => v = .bl true) fun _ _ _ => False) :
    PySem.W.WalkO q loose XP YP l.row.toRowW d [] (fun f vs => PySem.call f vs) := by
  apply Att.attach_call hn hdf
  intro w s₀ s₁ mg mb fa o pm cd doc a vs ns G Y _ _ _ hmg hobj hints hlen hg
  have kin := hY w _ Y
  obtain ⟨fd, hb, hF⟩ := F w mg fa _ kin G.T.g hmg
  exact law_end kin G.T.g G.T.b G.T.builtins G.T.nolimit hg hobj hints (Nat.le_trans hlen hn2) hr hF hb
    (fun H hO hS => hsp w H a ns hlen hO hS)
end Pg
/-! Pg1: operators for ints of any size, heaps that keep what they had, the source of draws. -/
namespace Pg
open PySem PySem.Spec PyProof.Rows L2

/-! ### operators -/
def MlOk (i j : Int) : Prop := CMul i j ∨ CMulW i j
theorem MlOk.ok {i j : Int} (h : MlOk i j) : IntMulOk i j := h.elim (·.ok) (·.ok)
theorem MlOk.l {i j : Int} (h1 : -18446744073709551616 < i) (h2 : i < 18446744073709551616) : MlOk i j := .inl (.inl ⟨h1, h2⟩)
theorem MlOk.r {i j : Int} (h1 : -18446744073709551616 < j) (h2 : j < 18446744073709551616) : MlOk i j := .inl (.inr ⟨h1, h2⟩)
theorem MlOk.w {i j : Int} (a b : Nat) (ha : i.natAbs < 2 ^ a) (hb : j.natAbs < 2 ^ b) (h0 : 0 < a := by decide) (h1 : 0 < b := by decide) (h : a + b ≤ 1000000 := by decide) : MlOk i j := .inr (wide_mul ha hb h0 h1 h)
/-- a divisor that the machine carries -/
def DivOk (_ j : Int) : Prop := j ≠ 0 ∧ j.natAbs.log2 < 9000
theorem DivOk.w {i j : Int} (b : Nat) (h : j ≠ 0) (hb : j.natAbs < 2 ^ b) (h0 : 0 < b := by decide) (h9 : b ≤ 9000 := by decide) : DivOk i j :=
  ⟨h, Nat.lt_of_lt_of_le (PySem.Flt.log2_lt_of h0 hb) h9⟩
theorem DivOk.s {i j : Int} (h : j ≠ 0) (h1 : -18446744073709551616 < j) (h2 : j < 18446744073709551616) : DivOk i j := DivOk.w 64 h (by omega)
/-- a divisor at all -/
def ModOk (_ j : Int) : Prop := j ≠ 0
theorem ModOk.c {i j : Int} (h : j ≠ 0) : ModOk i j := h
section
variable {X : Cx}
theorem op_mulU : OpR X (binaryOp .Mult) (rI MlOk fun i j => .int (i * j)) := opI fun _ _ _ _ _ _ _ hc q => mul_int q hc.ok
theorem op_fdU : OpR X (binaryOp .FloorDiv) (rI DivOk fun i j => .int (i.fdiv j)) := opI fun _ _ _ _ _ _ _ hc q =>
  floordiv_int hc.1 q (.inl (PyProof.noPylong_of_log2 hc.2))
theorem op_modU : OpR X (binaryOp .Mod) (rI ModOk fun i j => .int (i.fmod j)) := op_modN
end
theorem fdiv_pos {i j : Int} (h : 0 < j) : i.fdiv j = i / j := Int.fdiv_eq_ediv_of_nonneg i (by omega)
theorem fmod_pos {i j : Int} (h : 0 < j) : i.fmod j = i % j := Int.fmod_eq_emod_of_nonneg i (by omega)

/-! ### a while, by an invariant and a number that falls -/
theorem while_inv {c : TT} {tb : TS} {D : Ends} {σ : L2.St} {H : Hp} (W : L2.St → Hp → Prop) (μ : L2.St → Hp → Nat) (h0 : W σ H)
    (turn : ∀ σ H, W σ H → c σ H fun b H1 => if b = true then ∃ N : L2.St → Hp → Prop,
      (∀ σ' H', N σ' H' → ∃ m', m' < μ σ H ∧ (m' = μ σ' H' ∧ W σ' H')) ∧ tb { D with nx := N, ct := N, bk := D.nx } σ H1 else D.nx σ H1) :
    tWhile c tb D σ H := by
  refine ⟨fun m σ H => m = μ σ H ∧ W σ H, ⟨_, rfl, h0⟩, ?_⟩
  rintro m σ H ⟨rfl, w⟩
  exact turn σ H w
/-- what a turn leaves -/
theorem while_next {W : L2.St → Hp → Prop} {μ : L2.St → Hp → Nat} {n : Nat} {tb : TS} {D : Ends} {σ : L2.St} {H : Hp}
    (h : tb { D with nx := fun σ' H' => W σ' H' ∧ μ σ' H' < n, ct := fun σ' H' => W σ' H' ∧ μ σ' H' < n, bk := D.nx } σ H) :
    ∃ N : L2.St → Hp → Prop, (∀ σ' H', N σ' H' → ∃ m', m' < n ∧ (m' = μ σ' H' ∧ W σ' H')) ∧ tb { D with nx := N, ct := N, bk := D.nx } σ H :=
  ⟨_, fun σ' H' z => ⟨_, z.2, rfl, z.1⟩, h⟩

/-! ### heaps -/
theorem same_new {H : Hp} {p : Addr} {o : HO} (h : H p = none) : Same H (upd H p o) := fun b x e => by
  rw [upd_ne (ne_of_none e h)]
  exact e
/-! ### the source of draws -/
theorem k_lc : ¬ (("left" : Str) = "cells") := by decide +kernel
theorem k_ml : ¬ (("mixed" : Str) = "left") := by decide +kernel
theorem k_mc : ¬ (("mixed" : Str) = "cells") := by decide +kernel
theorem k_tc : ¬ (("turn" : Str) = "cells") := by decide +kernel
theorem k_tl : ¬ (("turn" : Str) = "left") := by decide +kernel
theorem k_tm : ¬ (("turn" : Str) = "mixed") := by decide +kernel
theorem inr_ne {x y : Str} (h : ¬ x = y) : ¬ (Sum.inr x : Key) = Sum.inr y := fun e => h (Sum.inr.inj e)
/-- its dict: the cells' list, what is left of the present cell, the mixed number, the turn -/
def srcKV (c : Addr) (l m t : Int) : List (Key × V) :=
  [(.inr "cells", .ref c), (.inr "left", .int l), (.inr "mixed", .int m), (.inr "turn", .int t)]
section
variable {c : Addr} {l m t l' m' t' : Int}
theorem src_c : valV (srcKV c l m t) (.inr "cells") = some (.ref c) := by
  unfold srcKV
  rw [valV_pos rfl]
theorem src_l : valV (srcKV c l m t) (.inr "left") = some (.int l) := by
  unfold srcKV
  rw [valV_neg (inr_ne fun e => k_lc e.symm), valV_pos rfl]
theorem src_m : valV (srcKV c l m t) (.inr "mixed") = some (.int m) := by
  unfold srcKV
  rw [valV_neg (inr_ne fun e => k_mc e.symm), valV_neg (inr_ne fun e => k_ml e.symm), valV_pos rfl]
theorem src_t : valV (srcKV c l m t) (.inr "turn") = some (.int t) := by
  unfold srcKV
  rw [valV_neg (inr_ne fun e => k_tc e.symm), valV_neg (inr_ne fun e => k_tl e.symm), valV_neg (inr_ne fun e => k_tm e.symm), valV_pos rfl]
theorem put_l : putK (srcKV c l m t) (.inr "left") (.int l') = srcKV c l' m t := by
  unfold putK
  rw [valV_any, src_l]
  rw [if_pos (by rfl)]
  unfold srcKV
  simp only [List.map_cons, List.map_nil]
  rw [if_neg (inr_ne fun e => k_lc e.symm), if_pos True.intro, if_neg (inr_ne k_ml), if_neg (inr_ne k_tl)]
theorem put_t : putK (srcKV c l m t) (.inr "turn") (.int t') = srcKV c l m t' := by
  unfold putK
  rw [valV_any, src_t]
  rw [if_pos (by rfl)]
  unfold srcKV
  simp only [List.map_cons, List.map_nil]
  rw [if_neg (inr_ne fun e => k_tc e.symm), if_neg (inr_ne fun e => k_tl e.symm), if_neg (inr_ne fun e => k_tm e.symm), if_pos True.intro]
theorem src_len : (srcKV c l m t).length < sizeLine := by
  show 4 < sizeLine
  decide
theorem src_made : mergeK [] (srcKV c l m t) = srcKV c l m t := by
  show putK (putK (putK (putK [] (.inr "cells") (.ref c)) (.inr "left") (.int l)) (.inr "mixed") (.int m)) (.inr "turn") (.int t) = srcKV c l m t
  have e1 : putK ([] : List (Key × V)) (.inr "cells") (.ref c) = [(.inr "cells", .ref c)] := by
    rw [putK_new _ rfl]
    rfl
  have e2 : putK [((.inr "cells" : Key), V.ref c)] (.inr "left") (.int l) = [(.inr "cells", .ref c), (.inr "left", .int l)] := by
    rw [putK_new _ (by rw [valV_neg (inr_ne fun e => k_lc e.symm)]; rfl)]
    rfl
  have e3 : putK [((.inr "cells" : Key), V.ref c), (.inr "left", .int l)] (.inr "mixed") (.int m) = [(.inr "cells", .ref c), (.inr "left", .int l), (.inr "mixed", .int m)] := by
    rw [putK_new _ (by rw [valV_neg (inr_ne fun e => k_mc e.symm), valV_neg (inr_ne fun e => k_ml e.symm)]; rfl)]
    rfl
  rw [e1, e2, e3]
  rw [putK_new _ (by rw [valV_neg (inr_ne fun e => k_tc e.symm), valV_neg (inr_ne fun e => k_tl e.symm), valV_neg (inr_ne fun e => k_tm e.symm)]; rfl)]
  rfl
end
/-- a source stands at a, its cells at c -/
def Src (H : Hp) (a c : Addr) : Prop := ∃ (l m t : Int) (ns : List Int), H a = some (.dK (srcKV c l m t)) ∧ H c = some (.lst (ns.map V.int))
/-- from H to H' draws were made, things were made anew; all else stands -/
structure Run (a c : Addr) (H H' : Hp) : Prop where
  src : Src H' a c
  keep : ∀ b o, b ≠ a → b ≠ c → H b = some o → H' b = some o
section
variable {a c p : Addr} {H H1 H2 : Hp} {o : HO}
theorem Src.ne (S : Src H a c) : a ≠ c := by
  obtain ⟨_, _, _, _, h1, h2⟩ := S
  exact ne_of h1 h2 (by intro z; cases z)
theorem Src.na (S : Src H a c) (n : H p = none) : a ≠ p := by
  obtain ⟨_, _, _, _, h1, _⟩ := S
  exact ne_of_none h1 n
theorem Src.nc (S : Src H a c) (n : H p = none) : c ≠ p := by
  obtain ⟨_, _, _, _, _, h1⟩ := S
  exact ne_of_none h1 n
theorem Src.new (S : Src H a c) (n : H p = none) : Src (upd H p o) a c := by
  have n1 := S.na n
  have n2 := S.nc n
  obtain ⟨l, m, t, ns, h1, h2⟩ := S
  exact ⟨l, m, t, ns, by rw [upd_ne n1]; exact h1, by rw [upd_ne n2]; exact h2⟩
theorem Src.same (S : Src H a c) (e : Same H H1) : Src H1 a c := by
  obtain ⟨l, m, t, ns, h1, h2⟩ := S
  exact ⟨l, m, t, ns, e _ _ h1, e _ _ h2⟩
theorem Run.refl (S : Src H a c) : Run a c H H := ⟨S, fun _ _ _ _ h => h⟩
theorem Run.trans (x : Run a c H H1) (y : Run a c H1 H2) : Run a c H H2 := ⟨y.src, fun b o h1 h2 h => y.keep b o h1 h2 (x.keep b o h1 h2 h)⟩
theorem Run.same (x : Run a c H H1) (e : Same H1 H2) : Run a c H H2 := ⟨x.src.same e, fun b o h1 h2 h => e _ _ (x.keep b o h1 h2 h)⟩
end

/-! ### the promises of what all laws have -/
def spOpen (K : PySem.W.Frag) : Sp := fun vs H Q _ => ∃ (a : Addr) (ns : List Int), vs = [.ref a] ∧ SqL K H a (ns.map V.int) ∧ ns.length ≤ 63 ∧
  ∀ (H' : Hp) (p c : Addr), Same H H' → H p = none → H c = none → Src H' p c → Q (.ref p) H'
def spPick : Sp := fun vs H Q _ => ∃ (a c : Addr) (n : Int), vs = [.ref a, .int n] ∧ Src H a c ∧ n.natAbs.log2 < 9000 ∧
  ∀ (H' : Hp) (k : Int), Run a c H H' → 0 ≤ k → (k < n ∨ k = 0) → Q (.int k) H'
def spCommon : Sp := fun vs H Q _ => ∃ (x y : Int), vs = [.int x, .int y] ∧ Q (.int (Nat.gcd x.natAbs y.natAbs : Nat)) H
end Pg
namespace Pg
open PySem PySem.Spec PyProof.Rows L2
/-! ### a def of the text as it stands behind the top -/
structure Df (K : PySem.W.Frag) (mg : Str → Option Value) (x : Str) (st : Stmt) (ps : List Str) : Prop where
  ex : ∃ (f : Addr) (fd : FuncData), Fun K x x st f fd ∧ mg x = some (.ref f) ∧ Binds K fd ps []
theorem df_mk {K : PySem.W.Frag} {h : Heap} {mg : Str → Option Value} {x : Str} {st : Stmt} {ps : List Str} {f : Addr} {oc : Value} {od an : Option Addr}
    {sl : Array (Option Value)} {kV dc pm cd ct : Value} (X : K.In h) (G : h.Ns mainGlobals mg) (a : PySem.W.nsIn K mainGlobals x = some (some (.ref f)))
    (l : K.lookup f = some ⟨oc, od, .func (PySem.W.fnOf x x (defArgs st) (defBody st) (defScope st) .none kV dc pm an cd ct), sl⟩)
    (c : PySem.W.codeIn K cd x = true) (k : PySem.W.keepIn K (.ref f) = true)
    (hb : ∀ (kV doc pm : Value) (an : Option Addr) (cdv ct : Value) (us : List Value), us.length = ps.length →
      bindArgs (PySem.W.fnOf x x (defArgs st) (defBody st) (defScope st) .none kV doc pm an cdv ct) ⟨us, []⟩ = pure (ps.zip us)) : Df K mg x st ps :=
  ⟨f, _, fun_mk l c k, PySem.W.mg_of X G a, (fun_mk l c k).binds hb⟩
theorem cal_of {P : Program} {w : World} {K : PySem.W.Frag} {mg : Str → Option Value} {base : Heap} {x : Str} {st : Stmt} {ps : List Str} {k : Nat} {sp : Sp}
    (D : Df K mg x st ps) (h : ∀ f fd, Fun K x x st f fd → FnG CX0 P w K mg base k f fd ps sp) : Cal P w K mg base k x ps sp := by
  obtain ⟨f, fd, F, m, b⟩ := D.ex
  exact ⟨f, fd, h f fd F, m, F.kp, b⟩
end Pg
namespace Pg
open PySem PySem.Spec PyProof.Rows L2
/-- a while whose end asks Z alone, however it ends -/
theorem while_two {c : TT} {tb : TS} {D : Ends} {σ : L2.St} {H : Hp} (W Z : L2.St → Hp → Prop) (μ : L2.St → Hp → Nat) (h0 : W σ H)
    (done : ∀ σ H, Z σ H → D.nx σ H)
    (turn : (∀ σ H, Z σ H → D.nx σ H) → ∀ σ H, W σ H → c σ H fun b H1 => if b = true then ∃ N : L2.St → Hp → Prop,
      (∀ σ' H', N σ' H' → ∃ m', m' < μ σ H ∧ (m' = μ σ' H' ∧ W σ' H')) ∧ tb { D with nx := N, ct := N, bk := D.nx } σ H1 else D.nx σ H1) :
    tWhile c tb D σ H := while_inv W μ h0 (turn done)
end Pg
namespace Pg
open PySem PySem.Spec PyProof.Rows L2
theorem abs_nat (i : Int) : (if i < 0 then -i else i) = (i.natAbs : Int) := by
  split <;> omega
end Pg
namespace Pg
open PySem PySem.Spec PyProof.Rows L2
/-- a comprehension's turn without tests -/
theorem yes_ite {σ : L2.St} {H : Hp} {A B : Hp → Prop} (h : A H) : tYes σ H (fun b H3 => if b = true then A H3 else B H3) := by
  show (if true = true then A H else B H)
  rw [if_pos rfl]
  exact h
end Pg
namespace Pg
open PySem PySem.Spec PyProof.Rows L2
end Pg
namespace Pg
open PySem PySem.Spec PyProof.Rows L2
theorem abs_add {x y : Int} {a : Nat} (hx : x.natAbs < 2 ^ a) (hy : y.natAbs < 2 ^ a) : (x + y).natAbs < 2 ^ (a + 1) := by
  rw [Nat.pow_succ]
  omega
theorem abs_up {x : Int} {a b : Nat} (h : x.natAbs < 2 ^ a) (hab : a ≤ b := by decide) : x.natAbs < 2 ^ b :=
  Nat.lt_of_lt_of_le h (Nat.pow_le_pow_right (by decide) hab)
/-- a law's promise: called with the script it answers True -/
def spLaw (K : PySem.W.Frag) : Sp := fun vs H Q _ => ∃ (a : Addr) (ns : List Int), vs = [.ref a] ∧ SqL K H a (ns.map V.int) ∧ ns.length ≤ 63 ∧
  ∀ H', Q (.bl true) H'
end Pg
/-! Pg2: plain data in the heap; repr, ==, isinstance of it; written data. -/
namespace Pg
open PySem PySem.Spec PyProof.Rows L2

/-! ### data, told by what stands in the heap; all its objects stand at addresses with av -/
def keyD : Key → PyData
  | .inl i => .int i
  | .inr x => .str x
/-- a list, a tuple: tracked at an address with av, or the written part's own -/
def LstA (av : Addr → Prop) (_ : PySem.W.Frag) (H : Hp) (p : Addr) (xs : List V) : Prop := av p ∧ H p = some (.lst xs)
/-- a tuple of the heap's first state -/
def FrzT (K : PySem.W.Frag) (p : Addr) (xs : List V) : Prop := ∃ (o : Obj) (its : Array Value) (n : Nat), K.lookup p = some o ∧ o.cls = .type "tuple" ∧ o.data = .seq its n ∧ its.size ≤ sizeLine ∧ Vals xs its.toList
def TupA (av : Addr → Prop) (K : PySem.W.Frag) (H : Hp) (p : Addr) (xs : List V) : Prop := (av p ∧ H p = some (.tup xs)) ∨ FrzT K p xs
theorem LstA.sq {av : Addr → Prop} {K : PySem.W.Frag} {H : Hp} {p : Addr} {xs : List V} (h : LstA av K H p xs) : SqL K H p xs := .inl (.inl h.2)
theorem TupA.sq {av : Addr → Prop} {K : PySem.W.Frag} {H : Hp} {p : Addr} {xs : List V} (h : TupA av K H p xs) : SqT K H p xs := h.elim (fun h => .inl (.inl h.2)) .inr
theorem LstA.of {av : Addr → Prop} {K : PySem.W.Frag} {H : Hp} {p : Addr} {xs : List V} (a : av p) (h : H p = some (.lst xs)) : LstA av K H p xs := ⟨a, h⟩
theorem TupA.of {av : Addr → Prop} {K : PySem.W.Frag} {H : Hp} {p : Addr} {xs : List V} (a : av p) (h : H p = some (.tup xs)) : TupA av K H p xs := .inl ⟨a, h⟩
theorem LstA.keep {av av' : Addr → Prop} {K : PySem.W.Frag} {H H' : Hp} {p : Addr} {xs : List V} (k : av p → ∀ o, H p = some o → av' p ∧ H' p = some o) (h : LstA av K H p xs) : LstA av' K H' p xs := k h.1 _ h.2
theorem TupA.keep {av av' : Addr → Prop} {K : PySem.W.Frag} {H H' : Hp} {p : Addr} {xs : List V} (k : av p → ∀ o, H p = some o → av' p ∧ H' p = some o) (h : TupA av K H p xs) : TupA av' K H' p xs := h.imp (fun h => k h.1 _ h.2) id
/-! ### keys that are tuples (numbers, None, tuples of these) -/
mutual
def noTx : NestedKey → Bool
  | .text _ => false
  | .tup ks => noTxA ks
  | _ => true
def noTxA : List NestedKey → Bool
  | [] => true
  | k :: ks => noTx k && noTxA ks
end
mutual
/-- what such a key hashes to, in each world -/
def hash0 : NestedKey → Int
  | .none => reduceHash 0xFCA86420
  | .num i => hashInt i
  | .text _ => 0
  | .tup ks => reduceHash (Builtin.Tuple.tupleHashOf (hash0A ks))
def hash0A : List NestedKey → List Int
  | [] => []
  | k :: ks => hash0 k :: hash0A ks
end
mutual
theorem hash0_eq (w : World) : ∀ k : NestedKey, noTx k = true → k.hash w = hash0 k
  | .none, _ => rfl
  | .num i, _ => rfl
  | .text _, h => by cases h
  | .tup ks, h => by
    rw [NestedKey.hash, hash0, hash0A_eq w ks h]
theorem hash0A_eq (w : World) : ∀ ks : List NestedKey, noTxA ks = true → NestedKey.hashes w ks = hash0A ks
  | [], _ => rfl
  | k :: ks, h => by
    have h2 := Bool.and_eq_true_iff.mp h
    rw [NestedKey.hashes, hash0A, hash0_eq w k h2.1, hash0A_eq w ks h2.2]
end
mutual
/-- the data that may be such a key -/
def keyOf : PyData → Option NestedKey
  | .int i => some (.num i)
  | .none => some .none
  | .tuple xs => (keysOf xs).map .tup
  | _ => none
def keysOf : List PyData → Option (List NestedKey)
  | [] => some []
  | x :: xs => (keyOf x).bind fun k => (keysOf xs).map (k :: ·)
end
/-- a dict with keys that are tuples: its entries' keys, the tuples' places, the values -/
abbrev Ents := List (NestedKey × Addr × V)
def RelX (a : NestedKey × Addr × V) (b : NestedKey × Addr × Value) : Prop := a.1 = b.1 ∧ a.2.1 = b.2.1 ∧ RelV a.2.2 b.2.2
def entX (x : NestedKey × Addr × Value) : DictEntry := ⟨hash0 x.1, .ref x.2.1, x.2.2⟩
/-- what such a dict's object holds -/
def OEnt (D : Addr) (o : Obj) (es : Ents) : Prop := es.length ≤ sizeLine ∧ (D == sysModules) = false ∧ (es.map (·.1)).Nodup ∧ (∀ e ∈ es, noTx e.1 = true ∧ e.1.depth ≤ 8) ∧
  ∃ xs : List (NestedKey × Addr × Value), Paired RelX es xs ∧ o.ExactDict ∧ ∃ as ep, o.data = .dict as ep ∧ as.toList = xs.map entX
/-- its object stands there, just this one -/
def KeyO (D : Addr) (o : Obj) : HO := .ext fun h => h.get? D = some o
theorem keyO_ok {P : Program} {w : World} {H : Hp} {h : Heap} {D : Addr} {o : Obj} (e : h.get? D = some o) : ObjOk P w H h D (KeyO D o) :=
  ⟨e, ⟨o, e⟩, fun h1 h2 q k => k o q⟩
theorem oent_empty {D : Addr} {o : Obj} (ns : (D == sysModules) = false) (ex : o.ExactDict) (h : o.data = .dict #[] 0) : OEnt D o [] :=
  ⟨Nat.zero_le _, ns, List.nodup_nil, (fun e m => by cases m), [], .nil, ex, #[], 0, h, rfl⟩
/-- {}, whose keys will be tuples -/
def tDNewX : TE := fun _ H Q => ∀ p o, H p = none → OEnt p o [] → Q (.ref p) (upd H p (KeyO p o))
theorem pe_dnewX {X : Cx} {pos : Pos} : PE X (.Dict [] [] pos) tDNewX := ⟨fun pins s σ H Q I h => by
  have hn := I.hok.fresh (Nat.le_refl s.heap.objs.size)
  have hg : (s.heap.push { cls := .type "dict", data := .dict #[] }).get? s.heap.objs.size = some { cls := .type "dict", data := .dict #[] } := Heap.get?_push_size _ rfl
  refine wpAny_Dict_empty ⟨.ref s.heap.objs.size, _, I.laid (a := s.heap.objs.size) (o := KeyO s.heap.objs.size { cls := .type "dict", data := .dict #[] }) (t' := s.toks) (fun _ _ q => Heap.get?_push_of_some _ q) (Nat.le_refl _) (keyO_ok hg), rfl, h _ _ hn (oent_empty ?_ ⟨rfl, rfl, rfl⟩ rfl)⟩
  exact beq_eq_false_iff_ne.mpr (Ne.symm (Nat.ne_of_lt I.big))⟩
/-- an object of a class of the program's own -/
structure ObC (K : PySem.W.Frag) (C : Addr) : Prop where
  cl : Cls K C
  ha : PySem.W.findIn K (.ref C) "__class__" = some (some (.builtin "object.__class__"))
  hn : PySem.W.specialIn K (.builtin "object.__class__") "__get__" = some (some (.builtin "getset_descriptor.__get__"))
  htk : PySem.W.takesIn K (.builtin "object.__class__") = some true
  hm : PySem.W.mroIn K C (.type "object") = some true
  no : ∀ n, n ∈ (["int", "bool", "tuple", "list", "str", "dict"] : List String) → PySem.W.kitOne K (.ref C) (.type n) = some false
/-- its attributes as a dict's entries; as data: class, then the attributes by name -/
def fldK (fs : List (Str × V)) : List (Key × V) := fs.map fun q => (.inr q.1, q.2)
def objD (C : Addr) (ds : List (PyData × PyData)) : PyData := .dict ((.none, .int (C : Nat)) :: ds)
mutual
inductive Dt (av : Addr → Prop) (K : PySem.W.Frag) (H : Hp) : V → PyData → Prop
  | non : Dt av K H .non .none
  | bl (b : Bool) : Dt av K H (.bl b) (.bool b)
  | int (i : Int) : Dt av K H (.int i) (.int i)
  | str (x : Str) : Dt av K H (.str x) (.str x)
  | lst {p : Addr} {xs : List V} {ds : List PyData} : LstA av K H p xs → Dts av K H xs ds → Dt av K H (.ref p) (.list ds)
  | tup {p : Addr} {xs : List V} {ds : List PyData} : TupA av K H p xs → Dts av K H xs ds → Dt av K H (.ref p) (.tuple ds)
  | dct {p : Addr} {kvs : List (Key × V)} {ds : List (PyData × PyData)} : av p → ds ≠ [] → H p = some (.dK kvs) → Dks av K H kvs ds → Dt av K H (.ref p) (.dict ds)
  | dcx {p : Addr} {o : Obj} {es : Ents} {ds : List (PyData × PyData)} : av p → H p = some (KeyO p o) → OEnt p o es → Dxs av K H es ds → Dt av K H (.ref p) (.dict ds)
  | obj {p C dx : Addr} {fs : List (Str × V)} {ds : List (PyData × PyData)} : av p → H p = some (.ins C dx fs) → ObC K C → Dks av K H (fldK fs) ds → Dt av K H (.ref p) (objD C ds)
inductive Dts (av : Addr → Prop) (K : PySem.W.Frag) (H : Hp) : List V → List PyData → Prop
  | nil : Dts av K H [] []
  | cons {v : V} {vs : List V} {d : PyData} {ds : List PyData} : Dt av K H v d → Dts av K H vs ds → Dts av K H (v :: vs) (d :: ds)
inductive Dks (av : Addr → Prop) (K : PySem.W.Frag) (H : Hp) : List (Key × V) → List (PyData × PyData) → Prop
  | nil : Dks av K H [] []
  | cons {k : Key} {v : V} {kvs : List (Key × V)} {d : PyData} {ds : List (PyData × PyData)} : Dt av K H v d → Dks av K H kvs ds → Dks av K H ((k, v) :: kvs) ((keyD k, d) :: ds)
inductive Dxs (av : Addr → Prop) (K : PySem.W.Frag) (H : Hp) : Ents → List (PyData × PyData) → Prop
  | nil : Dxs av K H [] []
  | cons {k : NestedKey} {a : Addr} {v : V} {es : Ents} {c d : PyData} {ds : List (PyData × PyData)} : Dt av K H (.ref a) c → keyOf c = some k → Dt av K H v d → Dxs av K H es ds → Dxs av K H ((k, a, v) :: es) ((c, d) :: ds)
end

section
variable {av av' : Addr → Prop} {K : PySem.W.Frag} {H H' : Hp}
mutual
theorem Dt.keep (k : ∀ b, av b → ∀ o, H b = some o → av' b ∧ H' b = some o) : ∀ {v : V} {d : PyData}, Dt av K H v d → Dt av' K H' v d
  | _, _, .non => .non
  | _, _, .bl b => .bl b
  | _, _, .int i => .int i
  | _, _, .str x => .str x
  | _, _, .lst s h => .lst (s.keep (k _)) (Dts.keep k h)
  | _, _, .tup s h => .tup (s.keep (k _)) (Dts.keep k h)
  | _, _, .dct a n s h => .dct (k _ a _ s).1 n (k _ a _ s).2 (Dks.keep k h)
  | _, _, .dcx a s c h => .dcx (k _ a _ s).1 (k _ a _ s).2 c (Dxs.keep k h)
  | _, _, .obj a s c h => .obj (k _ a _ s).1 (k _ a _ s).2 c (Dks.keep k h)
theorem Dts.keep (k : ∀ b, av b → ∀ o, H b = some o → av' b ∧ H' b = some o) : ∀ {vs : List V} {ds : List PyData}, Dts av K H vs ds → Dts av' K H' vs ds
  | _, _, .nil => .nil
  | _, _, .cons h t => .cons (Dt.keep k h) (Dts.keep k t)
theorem Dks.keep (k : ∀ b, av b → ∀ o, H b = some o → av' b ∧ H' b = some o) : ∀ {vs : List (Key × V)} {ds : List (PyData × PyData)}, Dks av K H vs ds → Dks av' K H' vs ds
  | _, _, .nil => .nil
  | _, _, .cons h t => .cons (Dt.keep k h) (Dks.keep k t)
theorem Dxs.keep (k : ∀ b, av b → ∀ o, H b = some o → av' b ∧ H' b = some o) : ∀ {es : Ents} {ds : List (PyData × PyData)}, Dxs av K H es ds → Dxs av' K H' es ds
  | _, _, .nil => .nil
  | _, _, .cons a e h t => .cons (Dt.keep k a) e (Dt.keep k h) (Dxs.keep k t)
end
theorem Dt.same {v : V} {d : PyData} (h : Dt av K H v d) (e : Same H H') : Dt av K H' v d := h.keep fun b a o z => ⟨a, e b o z⟩
theorem Dts.same {vs : List V} {ds : List PyData} (h : Dts av K H vs ds) (e : Same H H') : Dts av K H' vs ds := h.keep fun b a o z => ⟨a, e b o z⟩
theorem Dt.mono {v : V} {d : PyData} (h : Dt av K H v d) (m : ∀ b, av b → av' b) : Dt av' K H v d := h.keep fun b a o z => ⟨m b a, z⟩
theorem Dts.mono {vs : List V} {ds : List PyData} (h : Dts av K H vs ds) (m : ∀ b, av b → av' b) : Dts av' K H vs ds := h.keep fun b a o z => ⟨m b a, z⟩
theorem Dts.snoc {v : V} {d : PyData} : ∀ {vs : List V} {ds : List PyData}, Dts av K H vs ds → Dt av K H v d → Dts av K H (vs ++ [v]) (ds ++ [d])
  | _, _, .nil, h => .cons h .nil
  | _, _, .cons a t, h => .cons a (t.snoc h)
theorem Dts.append {vs' : List V} {ds' : List PyData} : ∀ {vs : List V} {ds : List PyData}, Dts av K H vs ds → Dts av K H vs' ds' → Dts av K H (vs ++ vs') (ds ++ ds')
  | _, _, .nil, h => h
  | _, _, .cons a t, h => .cons a (t.append h)
theorem Dts.length : ∀ {vs : List V} {ds : List PyData}, Dts av K H vs ds → vs.length = ds.length
  | _, _, .nil => rfl
  | _, _, .cons _ t => congrArg (· + 1) t.length
theorem Dts.get : ∀ {vs : List V} {ds : List PyData} {i : Nat} {v : V}, Dts av K H vs ds → vs[i]? = some v → ∃ d, ds[i]? = some d ∧ Dt av K H v d
  | _, _, 0, _, .cons h _, e => by
    cases e
    exact ⟨_, rfl, h⟩
  | _, _, i + 1, _, .cons _ t, e => Dts.get (i := i) t e
  | _, _, _, _, .nil, e => by simp at e
/-- a place off the source of draws -/
abbrev Off (a c : Addr) : Addr → Prop := fun b => b ≠ a ∧ b ≠ c
/-- fresh data lie off the source -/
theorem Src.off {a c : Addr} (S : Src H a c) {b : Addr} (n : H b = none) : Off a c b := ⟨(S.na n).symm, (S.nc n).symm⟩

/-! ### ints in a tuple -/
theorem Dts.ints : ∀ {vs : List V} {ns : List Int}, Dts av K H vs (ns.map PyData.int) → vs = ns.map V.int
  | _, [], .nil => rfl
  | _, n :: r, .cons h t => by
    cases h
    rw [t.ints]
    rfl
end

/-! ### what data are read as -/
def isNo : PyData → Bool
  | .none => true
  | _ => false
mutual
def noLst : PyData → Bool
  | .list _ => false
  | .tuple xs => noLstAll xs
  | .dict kvs => noLstKv kvs
  | _ => true
def noLstAll : List PyData → Bool
  | [] => true
  | x :: xs => noLst x && noLstAll xs
def noLstKv : List (PyData × PyData) → Bool
  | [] => true
  | (k, v) :: r => !isNo k && noLst k && noLst v && noLstKv r
end
mutual
/-- no object of an own class is within -/
def noOb : PyData → Bool
  | .list xs => noObA xs
  | .tuple xs => noObA xs
  | .dict kvs => noObK kvs
  | _ => true
def noObA : List PyData → Bool
  | [] => true
  | x :: xs => noOb x && noObA xs
def noObK : List (PyData × PyData) → Bool
  | [] => true
  | (k, v) :: r => !isNo k && noOb k && noOb v && noObK r
end
mutual
theorem noOb_noLst : ∀ d : PyData, noLst d = true → noOb d = true
  | .none, _ => rfl
  | .bool _, _ => rfl
  | .int _, _ => rfl
  | .str _, _ => rfl
  | .list _, h => by cases h
  | .tuple xs, h => noObA_noLst xs h
  | .dict kvs, h => noObK_noLst kvs h
theorem noObA_noLst : ∀ xs : List PyData, noLstAll xs = true → noObA xs = true
  | [], _ => rfl
  | x :: xs, h => by
    have z := Bool.and_eq_true_iff.mp h
    exact Bool.and_eq_true_iff.mpr ⟨noOb_noLst x z.1, noObA_noLst xs z.2⟩
theorem noObK_noLst : ∀ kvs : List (PyData × PyData), noLstKv kvs = true → noObK kvs = true
  | [], _ => rfl
  | (k, v) :: r, h => by
    have z := Bool.and_eq_true_iff.mp h
    have z1 := Bool.and_eq_true_iff.mp z.1
    have z2 := Bool.and_eq_true_iff.mp z1.1
    exact Bool.and_eq_true_iff.mpr ⟨Bool.and_eq_true_iff.mpr ⟨Bool.and_eq_true_iff.mpr ⟨z2.1, noOb_noLst k z2.2⟩, noOb_noLst v z1.2⟩, noObK_noLst r z.2⟩
end
mutual
theorem noOb_noDict : ∀ d : PyData, d.hasDict = false → noOb d = true
  | .none, _ => rfl
  | .bool _, _ => rfl
  | .int _, _ => rfl
  | .str _, _ => rfl
  | .list xs, h => noObA_noDict xs h
  | .tuple xs, h => noObA_noDict xs h
  | .dict _, h => by cases h
theorem noObA_noDict : ∀ xs : List PyData, PyData.hasDictAll xs = false → noObA xs = true
  | [], _ => rfl
  | x :: xs, h => by
    have h : (x.hasDict || PyData.hasDictAll xs) = false := h
    have z := Bool.or_eq_false_iff.mp h
    exact Bool.and_eq_true_iff.mpr ⟨noOb_noDict x z.1, noObA_noDict xs z.2⟩
end
mutual
theorem noOb_lay : ∀ d : PyData, d.canLay0 = true → noOb d = true
  | .none, _ => rfl
  | .bool _, _ => rfl
  | .int _, _ => rfl
  | .str _, _ => rfl
  | .list xs, h => noObA_lay xs h
  | .tuple xs, h => noObA_lay xs h
  | .dict _, h => by cases h
theorem noObA_lay : ∀ xs : List PyData, PyData.canLayAll0 xs = true → noObA xs = true
  | [], _ => rfl
  | x :: xs, h => by
    have h : (x.canLay0 && PyData.canLayAll0 xs) = true := h
    have z := Bool.and_eq_true_iff.mp h
    exact Bool.and_eq_true_iff.mpr ⟨noOb_lay x z.1, noObA_lay xs z.2⟩
end
theorem noOb_shaped {d : PyData} (h : SeqAt.shaped d = true) : noOb d = true := noOb_lay d (Bool.and_eq_true_iff.mp h).1
section
variable {X : Cx} {pins : List (Addr × Obj)} {σ : L2.St} {H : Hp} {s : Shared} {av : Addr → Prop}
theorem key_reads {k : Key} {kvu : Value} (h : keyIs k kvu = true) : Reads s.heap kvu (keyD k) [] := by
  rcases keyIs_shape h with ⟨i, t, rfl, rfl⟩ | ⟨x, t, rfl, rfl⟩
  · exact Reads.int i t
  · exact Reads.str x t
theorem objD_noOb {C : Addr} {ds : List (PyData × PyData)} {p : Prop} (h : noOb (objD C ds) = true) : p := by
  have h : (false && noOb (.int (C : Nat)) && noObK ds) = true := h
  cases h
mutual
theorem Dt.reads (I : Inv X pins σ H s) : ∀ {v : V} {d : PyData} (u : Value), Dt av X.K H v d → RelV v u → noOb d = true →
    ∃ as, Reads s.heap u d as ∧ (noLst d = true → sysModules ∉ as)
  | _, _, u, .non, r, _ => by
    cases r
    exact ⟨_, .none, fun _ z => by cases z⟩
  | _, _, u, .bl b, r, _ => by
    cases r
    exact ⟨_, .bool b, fun _ z => by cases z⟩
  | _, _, u, .int i, r, _ => by
    obtain ⟨t, rfl⟩ := r
    exact ⟨_, .int i t, fun _ z => by cases z⟩
  | _, _, u, .str x, r, _ => by
    obtain ⟨t, rfl⟩ := r
    exact ⟨_, .str x t, fun _ z => by cases z⟩
  | _, _, u, .lst hs ha, r, nb => by
    cases r
    obtain ⟨its, rv, ⟨o, n, h1, h2, _, h3⟩, _⟩ := I.list hs.sq
    obtain ⟨as, q1, _⟩ := Dts.reads I its ha rv nb
    exact ⟨_, .list h1 h2 h3 q1, fun z => by cases z⟩
  | _, _, u, .tup hs ha, r, nb => by
    cases r
    obtain ⟨its, rv, ⟨o, h1, h2, n, h3⟩, _⟩ := I.tuple hs.sq
    obtain ⟨as, q1, q2⟩ := Dts.reads I its ha rv nb
    exact ⟨_, .tuple h1 h2 h3 q1, fun z => q2 z⟩
  | _, _, u, .dct (p := p) (ds := ds) _ _ hs ha, r, nb => by
    cases r
    obtain ⟨_, ns, vs, kv, o, es, ep, h1, h2, h3, _, h4, _⟩ := I.hok p _ hs
    obtain ⟨as, bs, q1, q2, q3, q4⟩ := Dks.reads I es.toList vs ha kv h4 nb
    subst q4
    refine ⟨_, .dict h1 h2.1 h3 q1 q2, fun z m => ?_⟩
    rcases List.mem_append.mp m with m | m
    · rcases List.mem_cons.mp m with e | m
      · rw [← e] at ns
        simp at ns
      · cases m
    · exact q3 z m
  | _, _, u, .dcx (p := p) (ds := ds) _ hs oe ha, r, nb => by
    cases r
    obtain ⟨h1, _⟩ := I.hok p _ hs
    obtain ⟨_, ns, _, _, xs, rx, h2, es, ep, h3, h4⟩ := oe
    obtain ⟨as, bs, q1, q2, q3⟩ := Dxs.reads I xs ha rx nb
    have k1 : (es.toList.map (·.key)) = xs.map fun x => Value.ref x.2.1 := by
      rw [h4, List.map_map]
      rfl
    have k2 : (es.toList.map (·.val)) = xs.map fun x => x.2.2 := by
      rw [h4, List.map_map]
      rfl
    refine ⟨_, .dict h1 h2.1 h3 (by rw [k1]; exact q1) (by rw [k2]; exact q2), fun z m => ?_⟩
    have q3 := q3 z
    rcases List.mem_append.mp m with m | m
    · rcases List.mem_cons.mp m with e | m
      · rw [← e] at ns
        simp at ns
      · exact q3.1 m
    · exact q3.2 m
  | _, _, u, .obj _ _ _ _, r, nb => objD_noOb nb
theorem Dts.reads (I : Inv X pins σ H s) : ∀ {vs : List V} {ds : List PyData} (us : List Value), Dts av X.K H vs ds → Vals vs us → noObA ds = true →
    ∃ as, ReadsAll s.heap us ds as ∧ (noLstAll ds = true → sysModules ∉ as)
  | _, _, us, .nil, r, _ => by
    cases r
    exact ⟨_, .nil, fun _ z => by cases z⟩
  | _, _, us, .cons h t, r, nb => by
    have nb := Bool.and_eq_true_iff.mp nb
    cases r with
    | cons r1 r2 =>
      obtain ⟨as, q1, q2⟩ := Dt.reads I _ h r1 nb.1
      obtain ⟨bs, q3, q4⟩ := Dts.reads I _ t r2 nb.2
      refine ⟨_, .cons q1 q3, fun z m => ?_⟩
      have z2 := Bool.and_eq_true_iff.mp z
      rcases List.mem_append.mp m with m | m
      · exact q2 z2.1 m
      · exact q4 z2.2 m
theorem Dks.reads (I : Inv X pins σ H s) : ∀ {kvs : List (Key × V)} {ds : List (PyData × PyData)} (es : List DictEntry) (vs : List (Key × Value)), Dks av X.K H kvs ds → KV kvs vs →
    Pairs (mixKind X.prog X.w) es vs → noObK ds = true → ∃ as bs, ReadsAll s.heap (es.map (·.key)) (ds.map (·.1)) as ∧ ReadsAll s.heap (es.map (·.val)) (ds.map (·.2)) bs ∧ (noLstKv ds = true → sysModules ∉ bs) ∧ as = []
  | _, _, es, vs, .nil, r, p, _ => by
    cases r
    cases p
    exact ⟨_, _, .nil, .nil, (fun _ z => by cases z), rfl⟩
  | _, _, es, vs, .cons (k := k) h t, r, p, nb => by
    have nb := Bool.and_eq_true_iff.mp nb
    have nb1 := Bool.and_eq_true_iff.mp nb.1
    cases r with
    | cons r1 r2 =>
      cases p with
      | cons p1 p2 p3 =>
        obtain ⟨bs, q1, q2⟩ := Dt.reads I _ h r1.2 nb1.2
        obtain ⟨cs, ds', q3, q4, q5, q6⟩ := Dks.reads I _ _ t r2 p3 nb.2
        subst q6
        rw [← p2] at q1
        have p4 := p1
        rw [← r1.1] at p4
        refine ⟨_, _, .cons (key_reads (s := s) (k := k) p4) q3, .cons q1 q4, fun z m => ?_, rfl⟩
        have z1 := Bool.and_eq_true_iff.mp z
        have z2 := Bool.and_eq_true_iff.mp z1.1
        rcases List.mem_append.mp m with m | m
        · exact q2 z2.2 m
        · exact q5 z1.2 m
theorem Dxs.reads (I : Inv X pins σ H s) : ∀ {es : Ents} {ds : List (PyData × PyData)} (xs : List (NestedKey × Addr × Value)), Dxs av X.K H es ds → Paired RelX es xs → noObK ds = true →
    ∃ as bs, ReadsAll s.heap (xs.map fun x => Value.ref x.2.1) (ds.map (·.1)) as ∧ ReadsAll s.heap (xs.map fun x => x.2.2) (ds.map (·.2)) bs ∧ (noLstKv ds = true → sysModules ∉ as ∧ sysModules ∉ bs)
  | _, _, xs, .nil, r, _ => by
    cases r
    exact ⟨_, _, .nil, .nil, fun _ => ⟨(fun z => by cases z), fun z => by cases z⟩⟩
  | _, _, xs, .cons a e h t, r, nb => by
    have nb := Bool.and_eq_true_iff.mp nb
    have nb1 := Bool.and_eq_true_iff.mp nb.1
    have nb2 := Bool.and_eq_true_iff.mp nb1.1
    cases r with
    | cons r1 r2 =>
      obtain ⟨_, r12, r13⟩ := r1
      obtain ⟨as, q1, q2⟩ := Dt.reads I (.ref _) a rfl nb2.2
      obtain ⟨bs, q3, q4⟩ := Dt.reads I _ h r13 nb1.2
      obtain ⟨cs, ds', q5, q6, q7⟩ := Dxs.reads I _ t r2 nb.2
      dsimp only at r12
      subst r12
      refine ⟨_, _, .cons q1 q5, .cons q3 q6, fun z => ?_⟩
      have z1 := Bool.and_eq_true_iff.mp z
      have z2 := Bool.and_eq_true_iff.mp z1.1
      have z3 := Bool.and_eq_true_iff.mp z2.1
      have q7 := q7 z1.2
      refine ⟨fun m => ?_, fun m => ?_⟩
      · rcases List.mem_append.mp m with m | m
        · exact q2 z3.2 m
        · exact q7.1 m
      · rcases List.mem_append.mp m with m | m
        · exact q4 z2.2 m
        · exact q7.2 m
end
end

/-! ### repr -/
/-- data whose text the machine tells -/
structure Shw (d : PyData) : Prop where
  int : d.showable = true
  sys : d.hasDict = true → noLst d = true
  deep : d.depth ≤ 60
  len : d.shown.length ≤ sizeLine
def rRepr (K : PySem.W.Frag) : List V → Hp → VK → Prop := fun vs H Q => ∃ v d, vs = [v] ∧ Dt (fun _ => True) K H v d ∧ Shw d ∧ Q (.str d.shown) H
theorem Shw.noOb {d : PyData} (h : Shw d) : noOb d = true := by
  cases e : d.hasDict with
  | true => exact noOb_noLst d (h.sys e)
  | false => exact noOb_noDict d e
theorem cr_repr {X : Cx} {k : Nat} (hr : Room k X.A) (gd : X.A.guards = some []) : CallR X (.builtin "repr") (rRepr X.K) := by
  intro pins s σ H vs us Q I r h
  obtain ⟨v, d, rfl, hd, hs, q⟩ := h
  have nb := hs.noOb
  obtain ⟨h1, h2, h3, h4⟩ := hs
  obtain ⟨u, rfl, ru⟩ := vals1 r
  have un := hr.units
  have far : ∀ {a : Addr} {d' : PyData}, d' = d → Dt (fun _ => True) X.K H (.ref a) d' → RelV (.ref a) u → wpAny (model X.prog X.w) X.A (call (.builtin "repr") [u]) (EP X pins σ Q) X.xe s := by
    intro a d' ed hd2 e
    subst ed
    cases (show u = Value.ref a from e)
    obtain ⟨as, rd, na⟩ := Dt.reads I (.ref a) hd2 rfl nb
    exact repr_of_reads' rd h1 (fun z => na (h2 z)) gd (by omega) (fun _ _ e => e) (fun h' u' tk kp => ⟨.str _, H, I.kept kp, ⟨_, rfl⟩, q⟩) h4
  cases hd with
  | non =>
    cases ru
    exact PySem.P.repr_of_none ⟨.str _, H, I.tok _, ⟨_, rfl⟩, q⟩
  | bl b =>
    cases ru
    exact PySem.P.repr_of_bool ⟨.str _, H, I.tok _, ⟨_, rfl⟩, q⟩
  | int i =>
    obtain ⟨t, rfl⟩ := ru
    exact PySem.P.repr_of_int (of_decide_eq_true h1) ⟨.str _, H, I.tok _, ⟨_, rfl⟩, q⟩
  | str x =>
    obtain ⟨t, rfl⟩ := ru
    exact PySem.P.repr_of_str ⟨.str _, H, I.tok _, ⟨_, rfl⟩, q⟩ h4
  | lst sq t => exact far rfl (.lst sq t) ru
  | tup sq t => exact far rfl (.tup sq t) ru
  | dct a n sq t => exact far rfl (.dct a n sq t) ru
  | dcx a sq c t => exact far rfl (.dcx a sq c t) ru
  | obj a sq c t => exact objD_noOb nb

/-! ### == of data without dicts -/
def rEqT (K : PySem.W.Frag) : R2 := fun x y H Q => ∃ d e, Dt (fun _ => True) K H x d ∧ Dt (fun _ => True) K H y e ∧ SeqAt.shaped d = true ∧ SeqAt.shaped e = true ∧ Q (.bl (PyData.eqv d e)) H
def rNeT (K : PySem.W.Frag) : R2 := fun x y H Q => ∃ d e, Dt (fun _ => True) K H x d ∧ Dt (fun _ => True) K H y e ∧ SeqAt.shaped d = true ∧ SeqAt.shaped e = true ∧ Q (.bl (!PyData.eqv d e)) H
section
variable {X : Cx}
theorem op_eqT (hu : X.A.units + 64 < cLine) : OpR X (compareOp .Eq) (rEqT X.K) := by
  intro pins s σ H x y v u Q I rx ry h
  obtain ⟨d, e, hd, he, sd, se, q⟩ := h
  obtain ⟨as, r1, _⟩ := Dt.reads I v hd rx (noOb_shaped sd)
  obtain ⟨bs, r2, _⟩ := Dt.reads I u he ry (noOb_shaped se)
  exact SeqAt.compareEq_shaped r1 r2 sd se hu ⟨.bl _, H, I, rfl, q⟩
theorem op_neT (hu : X.A.units + 64 < cLine) : OpR X (compareOp .NotEq) (rNeT X.K) := by
  intro pins s σ H x y v u Q I rx ry h
  obtain ⟨d, e, hd, he, sd, se, q⟩ := h
  obtain ⟨as, r1, _⟩ := Dt.reads I v hd rx (noOb_shaped sd)
  obtain ⟨bs, r2, _⟩ := Dt.reads I u he ry (noOb_shaped se)
  exact SeqAt.compareNe_shaped r1 r2 sd se hu ⟨.bl _, H, I, rfl, q⟩
end

/-! ### isinstance of data and a built-in class -/
def tyName : PyData → String
  | .none => "NoneType"
  | .bool _ => "bool"
  | .int _ => "int"
  | .str _ => "str"
  | .list _ => "list"
  | .tuple _ => "tuple"
  | .dict _ => "dict"
def isI : PyData → Bool
  | .int _ | .bool _ => true
  | _ => false
def isB : PyData → Bool
  | .bool _ => true
  | _ => false
def isT : PyData → Bool
  | .tuple _ => true
  | _ => false
def isL : PyData → Bool
  | .list _ => true
  | _ => false
def isS : PyData → Bool
  | .str _ => true
  | _ => false
def isD : PyData → Bool
  | .dict ((.none, _) :: _) => false
  | .dict _ => true
  | _ => false
/-- the classes that laws ask for, each with its look -/
inductive TyLook : String → (PyData → Bool) → Prop
  | int : TyLook "int" isI
  | bool : TyLook "bool" isB
  | tuple : TyLook "tuple" isT
  | list : TyLook "list" isL
  | str : TyLook "str" isS
  | dict : TyLook "dict" isD
theorem TyLook.mem {n : String} {f : PyData → Bool} (h : TyLook n f) : n ∈ (["int", "bool", "tuple", "list", "str", "dict"] : List String) := by cases h <;> decide
theorem TyLook.obj {n : String} {f : PyData → Bool} (h : TyLook n f) (C : Addr) (ds : List (PyData × PyData)) : f (objD C ds) = false := by cases h <;> rfl
theorem TyLook.kitD {n : String} {f : PyData → Bool} (h : TyLook n f) {kvs : List (PyData × PyData)} (nk : ∀ q ∈ kvs, isNo q.1 = false) : kitB "dict" n = some (f (.dict kvs)) := by
  have e : isD (.dict kvs) = true := by
    cases kvs with
    | nil => rfl
    | cons q r =>
      obtain ⟨k, v⟩ := q
      have := nk (k, v) List.mem_cons_self
      cases k <;> first | rfl | (simp [isNo] at this)
  cases h
  case dict =>
    show _ = some (isD (.dict kvs))
    rw [e]
    decide +kernel
  all_goals
    simp only [isI, isB, isT, isL, isS]
    decide +kernel
theorem TyLook.kit {n : String} {f : PyData → Bool} (h : TyLook n f) (d : PyData) (nd : ∀ kvs : List (PyData × PyData), d ≠ .dict kvs) : kitB (tyName d) n = some (f d) := by
  cases d with
  | dict kvs => exact absurd rfl (nd kvs)
  | _ => cases h <;> simp only [tyName, isI, isB, isT, isL, isS, isD] <;> decide +kernel
theorem Dks.nk {av : Addr → Prop} {K : PySem.W.Frag} {H : Hp} : ∀ {kvs : List (Key × V)} {ds : List (PyData × PyData)}, Dks av K H kvs ds → ∀ q ∈ ds, isNo q.1 = false
  | _, _, .nil, q, m => by cases m
  | _, _, .cons (k := k) h t, q, m => by
    rcases List.mem_cons.mp m with e | m
    · rw [e]
      cases k <;> rfl
    · exact Dks.nk t q m
theorem Dt.keyT {av : Addr → Prop} {K : PySem.W.Frag} {H : Hp} {a : Addr} {d : PyData} {k : NestedKey} (h : Dt av K H (.ref a) d) (e : keyOf d = some k) : ∃ xs, d = .tuple xs := by
  cases h with
  | tup s t => exact ⟨_, rfl⟩
  | lst s t => cases e
  | dct a n s t => cases e
  | dcx a s c t => cases e
  | obj a s c t => cases e
theorem Dxs.nk {av : Addr → Prop} {K : PySem.W.Frag} {H : Hp} : ∀ {es : Ents} {ds : List (PyData × PyData)}, Dxs av K H es ds → ∀ q ∈ ds, isNo q.1 = false
  | _, _, .nil, q, m => by cases m
  | _, _, .cons a e h t, q, m => by
    rcases List.mem_cons.mp m with z | m
    · rw [z]
      obtain ⟨xs, rfl⟩ := a.keyT e
      rfl
    · exact Dxs.nk t q m
/-- what isinstance asks of data -/
theorem Dt.kit {X : Cx} {pins : List (Addr × Obj)} {σ : L2.St} {H : Hp} {s : Shared} {av : Addr → Prop} (I : Inv X pins σ H s) {v : V} {u : Value} {d : PyData} (h : Dt av X.K H v d) (r : RelV v u) :
    ∃ (t : Value) (P : Heap → Prop), PySem.W.KitX X.K u t P ∧ P s.heap ∧ u ≠ .builtin "__main__.__loader__#opaque" ∧ ∀ n f, TyLook n f → PySem.W.kitOne X.K t (.type n) = some (f d) := by
  have base : ∀ {t : String}, TyX X.K H v (.type t) → (∀ n f, TyLook n f → kitB t n = some (f d)) → ∃ (t : Value) (P : Heap → Prop), PySem.W.KitX X.K u t P ∧ P s.heap ∧ u ≠ .builtin "__main__.__loader__#opaque" ∧ ∀ n f, TyLook n f → PySem.W.kitOne X.K t (.type n) = some (f d) := by
    intro t ty k
    obtain ⟨P, Z, p, hx⟩ := kit_of I r ty
    exact ⟨_, P, Z, p, hx, fun n f tl => kit_ty (k n f tl)⟩
  cases h with
  | non => exact base (.base .non) fun n f tl => tl.kit PyData.none fun _ z => by cases z
  | bl b => exact base (.base (.bl b)) fun n f tl => tl.kit (.bool b) fun _ z => by cases z
  | int i => exact base (.base (.int i)) fun n f tl => tl.kit (.int i) fun _ z => by cases z
  | str x => exact base (.base (.str x)) fun n f tl => tl.kit (.str x) fun _ z => by cases z
  | lst s t => exact base (.base (.lst s.2)) fun n f tl => tl.kit (.list _) fun _ z => by cases z
  | tup s t =>
    rcases s with s | ⟨o, its, n, e, c, _⟩
    · exact base (.base (.tup s.2)) fun n f tl => tl.kit (.tuple _) fun _ z => by cases z
    · exact base (.kTuple e c) fun n f tl => tl.kit (.tuple _) fun _ z => by cases z
  | dct a n s t => exact base (.base (.dK s)) fun n f tl => tl.kitD t.nk
  | @dcx p o es ds a s oe t =>
    cases (show u = Value.ref p from r)
    obtain ⟨h1, _⟩ := I.hok p _ s
    obtain ⟨_, _, _, _, _, _, h2, _⟩ := oe
    exact ⟨_, _, PySem.W.kitx_dict, ⟨o, h1, h2.1⟩, (fun z => nomatch z), fun n f tl => kit_ty (tl.kitD t.nk)⟩
  | @obj p C dx fs ds a s c t =>
    obtain ⟨P, Z, p, hx⟩ := kit_of I r (.base (.ins s c.cl c.ha c.hn c.htk c.hm))
    exact ⟨_, P, Z, p, hx, fun n f tl => by rw [tl.obj]; exact c.no n tl.mem⟩
def rIsT (K : PySem.W.Frag) : List V → Hp → VK → Prop := fun vs H Q => ∃ v d n f, vs = [v, .ty n] ∧ Dt (fun _ => True) K H v d ∧ TyLook n f ∧ Q (.bl (f d)) H
theorem cr_isT {X : Cx} : CallR X (.builtin "isinstance") (rIsT X.K) := by
  intro pins s σ H vs us Q I r h
  obtain ⟨v, d, n, f, rfl, hd, tl, q⟩ := h
  obtain ⟨u1, u2, rfl, r1, r2⟩ := vals2 r
  cases (show u2 = Value.type n from r2)
  obtain ⟨t, P, Z, p, hx, k⟩ := hd.kit I r1
  exact PySem.W.kia_one Z I.kIn p (k n f tl) hx fun tk => ⟨.bl (f d), H, I.tok tk, rfl, q⟩
end Pg
/-! Pg3: readings over plain data: a def's slots told by data, with no heap in sight. -/
namespace Pg
open PySem PySem.Spec PyProof.Rows L2

/-- what is fixed while a def's body runs: the heap at its entry, the places that data may stand at, the source of draws -/
structure Fx where
  H0 : Hp
  al : Addr → Prop
  sr : Option (Addr × Addr)
def Fx.mu (F : Fx) (b : Addr) : Prop := ∃ a c, F.sr = some (a, c) ∧ (b = a ∨ b = c)
structure Fx.Ok (F : Fx) : Prop where
  new : ∀ b, F.H0 b = none → F.al b
  off : ∀ b, F.al b → ¬ F.mu b
/-- the lists that the def itself holds and changes: (slot, place) -/
abbrev Ow := List (Nat × Addr)
def Fx.cur (F : Fx) (O : Ow) (b : Addr) : Prop := F.al b ∧ ∀ i, (i, b) ∉ O
/-- what a slot holds: nothing known, data, a list of the def's own, the source -/
inductive Sl where
  | no
  | dat (d : PyData)
  | own (ds : List PyData)
  | ownd (ds : List (PyData × PyData))
  | src
  | ins (p C dx : Addr) (es : List (PyData × PyData))
abbrev Se := List Sl
def SlOk (K : PySem.W.Frag) (F : Fx) (O : Ow) (H : Hp) (i : Nat) (x : Option (Option V)) : Sl → Prop
  | .no => True
  | .dat d => ∃ v, x = some (some v) ∧ Dt (F.cur O) K H v d
  | .own ds => ∃ p xs, x = some (some (.ref p)) ∧ (i, p) ∈ O ∧ H p = some (.lst xs) ∧ Dts (F.cur O) K H xs ds
  | .ownd ds => ∃ p o es, x = some (some (.ref p)) ∧ (i, p) ∈ O ∧ H p = some (KeyO p o) ∧ OEnt p o es ∧ Dxs (F.cur O) K H es ds
  | .src => ∃ a c, F.sr = some (a, c) ∧ x = some (some (.ref a))
  | .ins p C dx es => x = some (some (.ref p)) ∧ (i, p) ∈ O ∧ ∃ gs, H p = some (.ins C dx gs) ∧ Dks (F.cur O) K H (fldK gs) es
/-- over the entry -/
structure Bs (F : Fx) (H : Hp) : Prop where
  ok : F.Ok
  base : ∀ b o, ¬ F.mu b → F.H0 b = some o → H b = some o
  src : ∀ a c, F.sr = some (a, c) → Src H a c
def NoTup (o : HO) : Prop := ∀ xs, o ≠ .tup xs
theorem noTup_lst {xs : List V} : NoTup (.lst xs) := fun _ e => nomatch e
theorem noTup_key {p : Addr} {o : Obj} : NoTup (KeyO p o) := fun _ e => nomatch e
structure OwOk (F : Fx) (O : Ow) (H : Hp) : Prop where
  n2 : (O.map (·.2)).Nodup
  st : ∀ q ∈ O, F.H0 q.2 = none ∧ ∃ o, H q.2 = some o ∧ NoTup o
structure Sts (K : PySem.W.Frag) (F : Fx) (O : Ow) (H : Hp) (σ : L2.St) (δ : Se) : Prop where
  bs : Bs F H
  ow : OwOk F O H
  len : σ.length = δ.length
  at_ : ∀ i s, δ[i]? = some s → SlOk K F O H i σ[i]? s
/-- all but the source is kept -/
def Kp (F : Fx) (H H' : Hp) : Prop := ∀ b o, ¬ F.mu b → H b = some o → H' b = some o
/-- what data may stand on is kept -/
def Stp (F : Fx) (O : Ow) (H : Hp) (O' : Ow) (H' : Hp) : Prop := ∀ b o, F.cur O b → H b = some o → F.cur O' b ∧ H' b = some o

section
variable {K : PySem.W.Frag} {F : Fx} {O O1 O2 : Ow} {H H1 H2 : Hp} {σ : L2.St} {δ : Se} {p : Addr} {o : HO}
theorem Kp.refl : Kp F H H := fun _ _ _ h => h
theorem Kp.trans (a : Kp F H H1) (b : Kp F H1 H2) : Kp F H H2 := fun x o n h => b x o n (a x o n h)
theorem Kp.same (e : Same H H1) : Kp F H H1 := fun b o _ h => e b o h
theorem Kp.new (n : H p = none) : Kp F H (upd H p o) := Kp.same (same_new n)
theorem Stp.refl : Stp F O H O H := fun _ _ c h => ⟨c, h⟩
theorem Stp.trans (a : Stp F O H O1 H1) (b : Stp F O1 H1 O2 H2) : Stp F O H O2 H2 := fun x o c h => b x o (a x o c h).1 (a x o c h).2
theorem Kp.stp (ok : F.Ok) (k : Kp F H H1) : Stp F O H O H1 := fun b o c h => ⟨c, k b o (ok.off b c.1) h⟩
theorem Dt.stp {v : V} {d : PyData} (s : Stp F O H O1 H1) (h : Dt (F.cur O) K H v d) : Dt (F.cur O1) K H1 v d := h.keep fun b c o e => s b o c e
theorem Dts.stp {vs : List V} {ds : List PyData} (s : Stp F O H O1 H1) (h : Dts (F.cur O) K H vs ds) : Dts (F.cur O1) K H1 vs ds := h.keep fun b c o e => s b o c e
theorem Dks.stp {es : List (Key × V)} {ds : List (PyData × PyData)} (s : Stp F O H O1 H1) (h : Dks (F.cur O) K H es ds) : Dks (F.cur O1) K H1 es ds := h.keep fun b c o e => s b o c e
theorem Dxs.stp {es : Ents} {ds : List (PyData × PyData)} (s : Stp F O H O1 H1) (h : Dxs (F.cur O) K H es ds) : Dxs (F.cur O1) K H1 es ds := h.keep fun b c o e => s b o c e
theorem Bs.fresh (B : Bs F H) (n : H p = none) : F.H0 p = none ∧ ¬ F.mu p ∧ F.al p := by
  have nm : ¬ F.mu p := by
    rintro ⟨a, c, e, z⟩
    obtain ⟨l, m, t, ns, h1, h2⟩ := B.src a c e
    rcases z with rfl | rfl
    · rw [h1] at n
      cases n
    · rw [h2] at n
      cases n
  have n0 : F.H0 p = none := by
    cases e : F.H0 p with
    | none => rfl
    | some o =>
      rw [B.base p o nm e] at n
      cases n
  exact ⟨n0, nm, B.ok.new p n0⟩
theorem OwOk.off (W : OwOk F O H) (n : H p = none) (i : Nat) : (i, p) ∉ O := fun m => by
  obtain ⟨_, xs, e, _⟩ := W.st _ m
  rw [n] at e
  cases e
theorem Sts.fresh (S : Sts K F O H σ δ) (n : H p = none) : F.cur O p := ⟨(S.bs.fresh n).2.2, S.ow.off n⟩
theorem Sts.kp (S : Sts K F O H σ δ) (k : Kp F H H1) (hs : ∀ a c, F.sr = some (a, c) → Src H1 a c) : Sts K F O H1 σ δ := by
  have stp : Stp F O H O H1 := k.stp S.bs.ok
  have own : ∀ {q : Nat × Addr} {o : HO}, q ∈ O → H q.2 = some o → H1 q.2 = some o := fun {q o} m e =>
    k _ _ (S.bs.ok.off _ (S.bs.ok.new _ (S.ow.st _ m).1)) e
  refine ⟨⟨S.bs.ok, fun b o n e => k b o n (S.bs.base b o n e), hs⟩, ⟨S.ow.n2, fun q m => ⟨(S.ow.st q m).1, ?_⟩⟩, S.len, fun i s e => ?_⟩
  · obtain ⟨xs, e, nt⟩ := (S.ow.st q m).2
    exact ⟨xs, own m e, nt⟩
  · have a := S.at_ i s e
    cases s with
    | no => trivial
    | dat d =>
      obtain ⟨v, e1, t⟩ := a
      exact ⟨v, e1, t.stp stp⟩
    | own ds =>
      obtain ⟨p, xs, e1, m, e2, t⟩ := a
      exact ⟨p, xs, e1, m, own m e2, t.stp stp⟩
    | ownd ds =>
      obtain ⟨p, o, es, e1, m, e2, c, t⟩ := a
      exact ⟨p, o, es, e1, m, own m e2, c, t.stp stp⟩
    | ins p C0 dx0 es0 =>
      obtain ⟨e1, m, xs, e2, t⟩ := a
      exact ⟨e1, m, xs, own m e2, t.stp stp⟩
    | src => exact a
theorem Sts.new (S : Sts K F O H σ δ) (n : H p = none) : Sts K F O (upd H p o) σ δ := S.kp (Kp.new n) fun a c e => (S.bs.src a c e).new n
theorem Sts.same (S : Sts K F O H σ δ) (e : Same H H1) : Sts K F O H1 σ δ := S.kp (Kp.same e) fun a c z => (S.bs.src a c z).same e
theorem Sts.cur_new (S : Sts K F O H σ δ) {v : V} {d : PyData} (h : Dt (fun b => F.cur O b ∨ H b = none) K H1 v d) : Dt (F.cur O) K H1 v d :=
  h.mono fun b z => z.elim id S.fresh
end

/-! ### the judgements -/
/-- an expression gives data with P, whatever the heap -/
def EV (K : PySem.W.Frag) (F : Fx) (δ : Se) (te : TE) (P : PyData → Prop) : Prop := ∀ (O : Ow) (H : Hp) (σ : L2.St), Sts K F O H σ δ → ∀ Q : VK,
  (∀ H' v d, Kp F H H' → Sts K F O H' σ δ → Dt (F.cur O) K H' v d → P d → Q v H') → te σ H Q
def EA (K : PySem.W.Frag) (F : Fx) (δ : Se) (ta : TA) (P : List PyData → Prop) : Prop := ∀ (O : Ow) (H : Hp) (σ : L2.St), Sts K F O H σ δ → ∀ Q : List V → Hp → Prop,
  (∀ H' vs ds, Kp F H H' → Sts K F O H' σ δ → Dts (F.cur O) K H' vs ds → P ds → Q vs H') → ta σ H Q
def BV (K : PySem.W.Frag) (F : Fx) (δ : Se) (tt : TT) (P : Bool → Prop) : Prop := ∀ (O : Ow) (H : Hp) (σ : L2.St), Sts K F O H σ δ → ∀ Q : Bool → Hp → Prop,
  (∀ H' b, Kp F H H' → Sts K F O H' σ δ → P b → Q b H') → tt σ H Q
/-- a target takes data -/
def GV (K : PySem.W.Frag) (F : Fx) (δ : Se) (g : TG) (d : PyData) (N : Se → Prop) : Prop := ∀ (O : Ow) (H : Hp) (σ : L2.St) (v : V), Sts K F O H σ δ → Dt (F.cur O) K H v d →
  ∀ Q : L2.St → Hp → Prop, (∀ σ' δ', Sts K F O H σ' δ' → N δ' → Q σ' H) → g v σ H Q
def GsV (K : PySem.W.Frag) (F : Fx) (δ : Se) (g : TGs) (ds : List PyData) (N : Se → Prop) : Prop := ∀ (O : Ow) (H : Hp) (σ : L2.St) (vs : List V), Sts K F O H σ δ → Dts (F.cur O) K H vs ds →
  ∀ Q : L2.St → Hp → Prop, (∀ σ' δ', Sts K F O H σ' δ' → N δ' → Q σ' H) → g vs σ H Q
/-- what is wanted behind a statement: at its end, of what it hands back, at a break, at a continue -/
structure Po where
  N : Se → Prop
  R : PyData → Prop
  B : Se → Prop
  C : Se → Prop
def SV (K : PySem.W.Frag) (F : Fx) (δ : Se) (ts : TS) (P : Po) : Prop := ∀ (O : Ow) (H : Hp) (σ : L2.St), Sts K F O H σ δ → ∀ D : Ends,
  (∀ O' H' σ' δ', Stp F O H O' H' → Sts K F O' H' σ' δ' → P.N δ' → D.nx σ' H') →
  (∀ H' v d, Bs F H' → Dt F.al K H' v d → P.R d → D.rt v H') →
  (∀ O' H' σ' δ', Stp F O H O' H' → Sts K F O' H' σ' δ' → P.B δ' → D.bk σ' H') →
  (∀ O' H' σ' δ', Stp F O H O' H' → Sts K F O' H' σ' δ' → P.C δ' → D.ct σ' H') → ts D σ H

section
variable {K : PySem.W.Frag} {F : Fx} {δ : Se} {ta tb tc te : TE} {P : PyData → Prop} {i : Nat} {d : PyData}

theorem EV.mono {P' : PyData → Prop} (h : EV K F δ te P) (m : ∀ d, P d → P' d) : EV K F δ te P' := fun O H σ S Q q => h O H σ S Q fun H' v d k S' t p => q H' v d k S' t (m d p)
theorem EA.mono {ta : TA} {P P' : List PyData → Prop} (h : EA K F δ ta P) (m : ∀ d, P d → P' d) : EA K F δ ta P' := fun O H σ S Q q => h O H σ S Q fun H' v d k S' t p => q H' v d k S' t (m d p)
theorem BV.mono {tt : TT} {P P' : Bool → Prop} (h : BV K F δ tt P) (m : ∀ d, P d → P' d) : BV K F δ tt P' := fun O H σ S Q q => h O H σ S Q fun H' d k S' p => q H' d k S' (m d p)

/-! ### expressions -/
theorem v_var (h : δ[i]? = some (.dat d)) (p : P d) : EV K F δ (tVar i) P := fun O H σ S Q q => by
  obtain ⟨v, e, t⟩ := S.at_ i _ h
  exact ⟨v, e, q H v d .refl S t p⟩
theorem v_int {j : Int} (p : P (.int j)) : EV K F δ (tC (.int j)) P := fun O H σ S Q q => q H _ _ .refl S (.int j) p
theorem v_bl {b : Bool} (p : P (.bool b)) : EV K F δ (tC (.bl b)) P := fun O H σ S Q q => q H _ _ .refl S (.bl b) p
theorem a_nil {P : List PyData → Prop} (p : P []) : EA K F δ tNil P := fun O H σ S Q q => q H _ _ .refl S .nil p
theorem a_cons {t : TA} {P : List PyData → Prop} (h : EV K F δ te fun d => EA K F δ t fun ds => P (d :: ds)) : EA K F δ (tCons te t) P := fun O H σ S Q q =>
  h O H σ S _ fun H1 v d k1 S1 t1 h1 => h1 O H1 σ S1 _ fun H2 vs ds k2 S2 t2 p => q H2 _ _ (k1.trans k2) S2 (.cons (t1.stp (k2.stp S.bs.ok)) t2) p
theorem small_size {n : Nat} (h : n ≤ 1000000) : n ≤ sizeLine := Nat.le_trans h (by decide)
theorem v_tup {t : TA} (h : EA K F δ t fun ds => ds.length ≤ 1000000 ∧ P (.tuple ds)) : EV K F δ (tTup t) P := fun O H σ S Q q =>
  h O H σ S _ fun H1 vs ds k1 S1 t1 ⟨n, p⟩ => ⟨small_size (by rw [t1.length]; exact n), fun p' np =>
    q _ _ _ (k1.trans (.new np)) (S1.new np) (.tup (.of (S1.fresh np) upd_same) (t1.stp ((Kp.new np).stp S.bs.ok))) p⟩
theorem v_lst {t : TA} (h : EA K F δ t fun ds => ds.length ≤ 1000000 ∧ P (.list ds)) : EV K F δ (tLst t) P := fun O H σ S Q q =>
  h O H σ S _ fun H1 vs ds k1 S1 t1 ⟨n, p⟩ => ⟨small_size (by rw [t1.length]; exact n), fun p' np =>
    q _ _ _ (k1.trans (.new np)) (S1.new np) (.lst (.of (S1.fresh np) upd_same) (t1.stp ((Kp.new np).stp S.bs.ok))) p⟩
/-- an operator over data -/
structure OpD (K : PySem.W.Frag) (F : Fx) (r : R2) (G : PyData → PyData → (PyData → Prop) → Prop) : Prop where
  run : ∀ (O : Ow) (H : Hp) (σ : L2.St) (δ : Se) (x y : V) (d e : PyData) (P : PyData → Prop) (Q : VK), Sts K F O H σ δ → Dt (F.cur O) K H x d → Dt (F.cur O) K H y e → G d e P →
    (∀ H' v s, Kp F H H' → Sts K F O H' σ δ → Dt (F.cur O) K H' v s → P s → Q v H') → r x y H Q
theorem v_op {r : R2} {G : PyData → PyData → (PyData → Prop) → Prop} (o : OpD K F r G) (h : EV K F δ ta fun d => EV K F δ tb fun e => G d e P) : EV K F δ (tOp r ta tb) P := fun O H σ S Q q =>
  h O H σ S _ fun H1 x d k1 S1 t1 h1 => h1 O H1 σ S1 _ fun H2 y e k2 S2 t2 g =>
    o.run O H2 σ δ x y d e P Q S2 (t1.stp (k2.stp S.bs.ok)) t2 g fun H3 v s k3 S3 t3 p => q H3 v s ((k1.trans k2).trans k3) S3 t3 p
theorem od_I0 {g : Int → Int → Int} : OpD K F (rI0 fun i j => .int (g i j)) (fun d e P => ∃ i j, d = .int i ∧ e = .int j ∧ P (.int (g i j))) :=
  ⟨fun O H σ δ x y d e P Q S t1 t2 ⟨i, j, h1, h2, p⟩ q => by
    subst h1 h2
    cases t1
    cases t2
    exact ⟨i, j, rfl, rfl, q H _ _ .refl S (.int _) p⟩⟩
theorem od_I0b {g : Int → Int → Bool} : OpD K F (rI0 fun i j => .bl (g i j)) (fun d e P => ∃ i j, d = .int i ∧ e = .int j ∧ P (.bool (g i j))) :=
  ⟨fun O H σ δ x y d e P Q S t1 t2 ⟨i, j, h1, h2, p⟩ q => by
    subst h1 h2
    cases t1
    cases t2
    exact ⟨i, j, rfl, rfl, q H _ _ .refl S (.bl _) p⟩⟩
theorem od_I {C : Int → Int → Prop} {g : Int → Int → Int} : OpD K F (rI C fun i j => .int (g i j)) (fun d e P => ∃ i j, d = .int i ∧ e = .int j ∧ C i j ∧ P (.int (g i j))) :=
  ⟨fun O H σ δ x y d e P Q S t1 t2 ⟨i, j, h1, h2, c, p⟩ q => by
    subst h1 h2
    cases t1
    cases t2
    exact ⟨i, j, rfl, rfl, c, q H _ _ .refl S (.int _) p⟩⟩
theorem od_eq : OpD K F (rEqT K) (fun d e P => SeqAt.shaped d = true ∧ SeqAt.shaped e = true ∧ P (.bool (PyData.eqv d e))) :=
  ⟨fun O H σ δ x y d e P Q S t1 t2 ⟨h1, h2, p⟩ q => ⟨d, e, t1.mono fun _ _ => trivial, t2.mono fun _ _ => trivial, h1, h2, q H _ _ .refl S (.bl _) p⟩⟩
theorem od_ne : OpD K F (rNeT K) (fun d e P => SeqAt.shaped d = true ∧ SeqAt.shaped e = true ∧ P (.bool (!PyData.eqv d e))) :=
  ⟨fun O H σ δ x y d e P Q S t1 t2 ⟨h1, h2, p⟩ q => ⟨d, e, t1.mono fun _ _ => trivial, t2.mono fun _ _ => trivial, h1, h2, q H _ _ .refl S (.bl _) p⟩⟩
/-- a list's or a tuple's items -/
def itemsD : PyData → Option (List PyData)
  | .list ds => some ds
  | .tuple ds => some ds
  | _ => none
theorem atI_dts {av : Addr → Prop} {H : Hp} {vs : List V} {ds : List PyData} {j : Int} {r : PyData} (t : Dts av K H vs ds) (h : atI ds j = some r) : ∃ v, atI vs j = some v ∧ Dt av K H v r := by
  unfold atI at h ⊢
  rw [t.length]
  cases e : ixN ds.length j with
  | none =>
    rw [e] at h
    cases h
  | some n =>
    rw [e] at h
    have h2 : ds[n]? = some r := h
    have hn : n < vs.length := by
      rw [t.length]
      exact (List.getElem?_eq_some_iff.mp h2).1
    obtain ⟨d, e1, t1⟩ := t.get (List.getElem?_eq_getElem hn)
    rw [h2] at e1
    cases e1
    exact ⟨vs[n], List.getElem?_eq_getElem hn, t1⟩
theorem od_ix : OpD K F (rIx K) (fun d e P => ∃ ds j r, itemsD d = some ds ∧ e = .int j ∧ atI ds j = some r ∧ P r) :=
  ⟨fun O H σ δ x y d e P Q S t1 t2 ⟨ds, j, r, h1, h2, h3, p⟩ q => by
    subst h2
    cases t2
    cases t1 with
    | lst s t =>
      cases h1
      obtain ⟨v, e1, t3⟩ := atI_dts t h3
      exact .inl ⟨_, _, j, v, rfl, rfl, s.sq, e1, q H v r .refl S t3 p⟩
    | tup s t =>
      cases h1
      obtain ⟨v, e1, t3⟩ := atI_dts t h3
      exact .inr (.inl ⟨_, _, j, v, rfl, rfl, s.sq, e1, q H v r .refl S t3 p⟩)
    | non => cases h1
    | bl b => cases h1
    | int k => cases h1
    | str z => cases h1
    | dct a n s t => cases h1
    | dcx a s c t => cases h1
    | obj a s c t => cases h1⟩
theorem v_neg (h : EV K F δ ta fun d => ∃ j, d = .int j ∧ P (.int (-j))) : EV K F δ (tUn (rU fun j => .int (-j)) ta) P := fun O H σ S Q q =>
  h O H σ S _ fun H1 x d k1 S1 t1 ⟨j, e, p⟩ => by
    subst e
    cases t1
    exact ⟨j, rfl, q H1 _ _ k1 S1 (.int _) p⟩
theorem v_if {c : TT} (h : BV K F δ c fun b => (b = true → EV K F δ ta P) ∧ (b = false → EV K F δ tb P)) : EV K F δ (tIf c ta tb) P := fun O H σ S Q q =>
  h O H σ S _ fun H1 b k1 S1 ⟨h1, h2⟩ => by
    cases b with
    | true => exact h1 rfl O H1 σ S1 _ fun H' v d k S' t p => q H' v d (k1.trans k) S' t p
    | false => exact h2 rfl O H1 σ S1 _ fun H' v d k S' t p => q H' v d (k1.trans k) S' t p
theorem v_and (h : EV K F δ ta fun d => ∃ b, d = .bool b ∧ (b = true → EV K F δ tb P) ∧ (b = false → P (.bool false))) : EV K F δ (tAndV ta tb) P := fun O H σ S Q q =>
  h O H σ S _ fun H1 x d k1 S1 t1 ⟨b, e, h1, h2⟩ => by
    subst e
    cases t1
    refine ⟨b, rfl, ?_⟩
    cases b with
    | true => exact h1 rfl O H1 σ S1 _ fun H' v d k S' t p => q H' v d (k1.trans k) S' t p
    | false => exact q H1 _ _ k1 S1 (.bl false) (h2 rfl)
theorem v_not (h : EV K F δ ta fun d => ∃ b, d = .bool b ∧ P (.bool !b)) : EV K F δ (tNotV ta) P := fun O H σ S Q q =>
  h O H σ S _ fun H1 x d k1 S1 t1 ⟨b, e, p⟩ => by
    subst e
    cases t1
    exact ⟨b, rfl, q H1 _ _ k1 S1 (.bl _) p⟩
/-! ### tests -/
variable {t u : TT} {PB : Bool → Prop}
theorem b_test (h : EV K F δ te fun d => ∃ b, d = .bool b ∧ PB b) : BV K F δ (tTest te) PB := fun O H σ S Q q =>
  h O H σ S _ fun H1 x d k1 S1 t1 ⟨b, e, p⟩ => by
    subst e
    cases t1
    exact ⟨b, rfl, q H1 b k1 S1 p⟩
theorem b_val (h : EV K F δ te fun d => ∃ b, d = .bool b ∧ PB b) : BV K F δ (tB te) PB := fun O H σ S Q q =>
  h O H σ S _ fun H1 x d k1 S1 t1 ⟨b, e, p⟩ => by
    subst e
    cases t1
    exact ⟨b, rfl, q H1 b k1 S1 p⟩
theorem b_and (h : BV K F δ t fun b => (b = true → BV K F δ u PB) ∧ (b = false → PB false)) : BV K F δ (tAnd t u) PB := fun O H σ S Q q =>
  h O H σ S _ fun H1 b k1 S1 ⟨h1, h2⟩ => by
    cases b with
    | true => exact h1 rfl O H1 σ S1 _ fun H' b k S' p => q H' b (k1.trans k) S' p
    | false => exact q H1 _ k1 S1 (h2 rfl)
theorem b_or (h : BV K F δ t fun b => (b = true → PB true) ∧ (b = false → BV K F δ u PB)) : BV K F δ (tOr t u) PB := fun O H σ S Q q =>
  h O H σ S _ fun H1 b k1 S1 ⟨h1, h2⟩ => by
    cases b with
    | true => exact q H1 _ k1 S1 (h1 rfl)
    | false => exact h2 rfl O H1 σ S1 _ fun H' b k S' p => q H' b (k1.trans k) S' p
theorem b_not (h : BV K F δ t fun b => PB !b) : BV K F δ (tNot t) PB := fun O H σ S Q q => h O H σ S _ fun H1 b k1 S1 p => q H1 _ k1 S1 p
theorem b_yes (h : PB true) : BV K F δ tYes PB := fun O H σ S Q q => q H true .refl S h

/-! ### calls -/
/-- a built-in function over data -/
structure CaD (K : PySem.W.Frag) (F : Fx) (r : List V → Hp → VK → Prop) (G : List PyData → (PyData → Prop) → Prop) : Prop where
  run : ∀ (O : Ow) (H : Hp) (σ : L2.St) (δ : Se) (vs : List V) (ds : List PyData) (P : PyData → Prop) (Q : VK), Sts K F O H σ δ → Dts (F.cur O) K H vs ds → G ds P →
    (∀ H' v s, Kp F H H' → Sts K F O H' σ δ → Dt (F.cur O) K H' v s → P s → Q v H') → r vs H Q
theorem v_cb {r : List V → Hp → VK → Prop} {G : List PyData → (PyData → Prop) → Prop} {t : TA} (c : CaD K F r G) (h : EA K F δ t fun ds => G ds P) : EV K F δ (tCB r t) P := fun O H σ S Q q =>
  h O H σ S _ fun H1 vs ds k1 S1 t1 g => c.run O H1 σ δ vs ds P Q S1 t1 g fun H2 v s k2 S2 t2 p => q H2 v s (k1.trans k2) S2 t2 p
theorem dts_one {av : Addr → Prop} {H : Hp} {vs : List V} {d : PyData} (h : Dts av K H vs [d]) : ∃ v, vs = [v] ∧ Dt av K H v d := by
  cases h with
  | cons h t =>
    cases t
    exact ⟨_, rfl, h⟩
theorem dts_two {av : Addr → Prop} {H : Hp} {vs : List V} {d e : PyData} (h : Dts av K H vs [d, e]) : ∃ v w, vs = [v, w] ∧ Dt av K H v d ∧ Dt av K H w e := by
  cases h with
  | cons h t =>
    cases t with
    | cons h2 t =>
      cases t
      exact ⟨_, _, rfl, h, h2⟩
theorem cd_gcd : CaD K F rGcd (fun ds P => ∃ i j, ds = [.int i, .int j] ∧ P (.int ((Nat.gcd i.natAbs j.natAbs : Nat) : Int))) :=
  ⟨fun O H σ δ vs ds P Q S t ⟨i, j, e, p⟩ q => by
    subst e
    obtain ⟨v, w, rfl, h1, h2⟩ := dts_two t
    cases h1
    cases h2
    exact ⟨i, j, rfl, q H _ _ .refl S (.int _) p⟩⟩
theorem cd_repr : CaD K F (rRepr K) (fun ds P => ∃ d, ds = [d] ∧ Shw d ∧ P (.str d.shown)) :=
  ⟨fun O H σ δ vs ds P Q S t ⟨d, e, s, p⟩ q => by
    subst e
    obtain ⟨v, rfl, h⟩ := dts_one t
    exact ⟨v, d, rfl, h.mono fun _ _ => trivial, s, q H _ _ .refl S (.str _) p⟩⟩
/-- what call_len_seq asks -/
theorem cd_len : CaD K F (fun xs H Q => ∃ p ys, xs = [V.ref p] ∧ (SqL K H p ys ∨ SqT K H p ys) ∧ Q (.int ys.length) H) (fun ds P => ∃ d ys, ds = [d] ∧ itemsD d = some ys ∧ P (.int ys.length)) :=
  ⟨fun O H σ δ vs ds P Q S t ⟨d, ys, e, hi, p⟩ q => by
    subst e
    obtain ⟨v, rfl, h⟩ := dts_one t
    cases h with
    | lst s t2 =>
      cases hi
      exact ⟨_, _, rfl, .inl s.sq, by rw [t2.length]; exact q H _ _ .refl S (.int _) p⟩
    | tup s t2 =>
      cases hi
      exact ⟨_, _, rfl, .inr s.sq, by rw [t2.length]; exact q H _ _ .refl S (.int _) p⟩
    | non => cases hi
    | bl b => cases hi
    | int k => cases hi
    | str z => cases hi
    | dct a n s t => cases hi
    | dcx a s c t => cases hi
    | obj a s c t => cases hi⟩
theorem dts_bools {av : Addr → Prop} {H : Hp} : ∀ {vs : List V} {bs : List Bool}, Dts av K H vs (bs.map PyData.bool) → vs = bs.map V.bl
  | _, [], .nil => rfl
  | _, n :: r, .cons h t => by
    cases h
    rw [dts_bools t]
    rfl
theorem cd_all : CaD K F (rAll K) (fun ds P => ∃ bs : List Bool, ds = [.list (bs.map .bool)] ∧ P (.bool (bs.all id))) :=
  ⟨fun O H σ δ vs ds P Q S t ⟨bs, e, p⟩ q => by
    subst e
    obtain ⟨v, rfl, h⟩ := dts_one t
    cases h with
    | lst s t =>
      rw [dts_bools t] at s
      exact ⟨_, bs, rfl, s.sq, q H _ _ .refl S (.bl _) p⟩⟩
theorem cd_sum : CaD K F (rSum K) (fun ds P => ∃ ns : List Int, ds = [.list (ns.map .int)] ∧ P (.int ns.sum)) :=
  ⟨fun O H σ δ vs ds P Q S t ⟨ns, e, p⟩ q => by
    subst e
    obtain ⟨v, rfl, h⟩ := dts_one t
    cases h with
    | lst s t =>
      rw [t.ints] at s
      exact ⟨_, ns, rfl, s.sq, q H _ _ .refl S (.int _) p⟩⟩
theorem v_isin {n : String} {f : PyData → Bool} (tl : TyLook n f) (h : EV K F δ te fun d => P (.bool (f d))) : EV K F δ (tCB (rIsT K) (tCons te (tCons (tC (.ty n)) tNil))) P := fun O H σ S Q q =>
  h O H σ S _ fun H1 v d k1 S1 t1 p => ⟨v, d, n, f, rfl, t1.mono fun _ _ => trivial, tl, q H1 _ _ k1 S1 (.bl _) p⟩
theorem v_rev (h : EV K F δ te fun d => ∃ ds, d = .list ds ∧ P (.list ds.reverse)) : EV K F δ (tRevL K te) P := fun O H σ S Q q =>
  h O H σ S _ fun H1 v d k1 S1 t1 ⟨ds, e, p⟩ => by
    subst e
    cases t1 with
    | lst s t =>
      have rev : ∀ {vs : List V} {ds : List PyData}, Dts (F.cur O) K H1 vs ds → Dts (F.cur O) K H1 vs.reverse ds.reverse := by
        intro vs
        induction vs with
        | nil =>
          intro ds z
          cases z
          exact .nil
        | cons x r ih =>
          intro ds z
          cases z with
          | cons z1 z2 =>
            rw [List.reverse_cons, List.reverse_cons]
            exact (ih z2).append (.cons z1 .nil)
      exact ⟨_, _, rfl, s.sq, fun p' np => q _ _ _ (k1.trans (.new np)) (S1.new np) (.lst (.of (S1.fresh np) upd_same) ((rev t).stp ((Kp.new np).stp S.bs.ok))) p⟩
end
end Pg
/-! Pg4: statements, loops, comprehensions over plain data; promises of defs over data. -/
namespace Pg
open PySem PySem.Spec PyProof.Rows L2

section
variable {K : PySem.W.Frag} {F : Fx} {O O1 O2 : Ow} {H H1 H2 : Hp} {σ : L2.St} {δ : Se} {p : Addr} {o : HO} {i : Nat} {ta tb tc te : TE} {P : Po}

/-! ### slots stored -/
def dropO (O : Ow) (i : Nat) : Ow := O.filter fun q => q.1 ≠ i
theorem mem_dropO {q : Nat × Addr} : q ∈ dropO O i ↔ q ∈ O ∧ q.1 ≠ i := by
  unfold dropO
  rw [List.mem_filter]
  simp
theorem OwOk.drop (W : OwOk F O H) (i : Nat) : OwOk F (dropO O i) H :=
  ⟨W.n2.sublist (List.Sublist.map _ List.filter_sublist), fun q m => W.st q (mem_dropO.mp m).1⟩
theorem stp_drop : Stp F O H (dropO O i) H := fun b o c h => ⟨⟨c.1, fun j m => c.2 j (mem_dropO.mp m).1⟩, h⟩
theorem ow_inj : ∀ {l : Ow}, (l.map (·.2)).Nodup → ∀ {x y : Nat × Addr}, x ∈ l → y ∈ l → x.2 = y.2 → x = y
  | [], _, _, _, hx, _, _ => by cases hx
  | q :: r, hn, x, y, hx, hy, e => by
    rw [List.map_cons] at hn
    obtain ⟨n1, n2⟩ := List.nodup_cons.mp hn
    rcases List.mem_cons.mp hx with ex | mx
    · rcases List.mem_cons.mp hy with ey | my
      · rw [ex, ey]
      · exact absurd (List.mem_map.mpr ⟨y, my, e.symm.trans (by rw [ex])⟩) n1
    · rcases List.mem_cons.mp hy with ey | my
      · exact absurd (List.mem_map.mpr ⟨x, mx, e.trans (by rw [ey])⟩) n1
      · exact ow_inj n2 mx my e
/-- a slot takes what it may hold -/
theorem Sts.slot (S : Sts K F O H σ δ) {v : V} {s : Sl} (k : SlOk K F O H i (some (some v)) s) : Sts K F O H (σ.set i (some v)) (δ.set i s) := by
  refine ⟨S.bs, S.ow, by rw [List.length_set, List.length_set]; exact S.len, fun j s' e => ?_⟩
  by_cases h : i = j
  · subst h
    have hl : i < δ.length := by
      have := (List.getElem?_eq_some_iff.mp e).1
      rwa [List.length_set] at this
    rw [List.getElem?_set_self hl] at e
    cases e
    rw [List.getElem?_set_self (by rw [S.len]; exact hl)]
    exact k
  · rw [List.getElem?_set_ne h] at e ⊢
    exact S.at_ j s' e
theorem Sts.put (S : Sts K F O H σ δ) {v : V} {d : PyData} (t : Dt (F.cur O) K H v d) : Sts K F O H (σ.set i (some v)) (δ.set i (.dat d)) := S.slot ⟨v, rfl, t⟩
/-- a new list is laid, held by the def alone -/
theorem Sts.addOw (S : Sts K F O H σ δ) (np : H p = none) (i : Nat) (xs : List V) :
    Sts K F ((i, p) :: O) (upd H p (.lst xs)) σ δ ∧ Stp F O H ((i, p) :: O) (upd H p (.lst xs)) := by
  have off : ∀ j, (j, p) ∉ O := S.ow.off np
  have st : Stp F O H ((i, p) :: O) (upd H p (.lst xs)) := fun b o c e => by
    have nb : b ≠ p := ne_of_none e np
    refine ⟨⟨c.1, fun j m => ?_⟩, by rw [upd_ne nb]; exact e⟩
    rcases List.mem_cons.mp m with z | z
    · exact nb (Prod.mk.inj z).2
    · exact c.2 j z
  have S2 := S.new (o := .lst xs) np
  refine ⟨⟨S2.bs, ⟨?_, ?_⟩, S.len, fun j s e => ?_⟩, st⟩
  · rw [List.map_cons]
    refine List.nodup_cons.mpr ⟨fun m => ?_, S2.ow.n2⟩
    obtain ⟨q, hq, e⟩ := List.mem_map.mp m
    obtain ⟨q1, q2⟩ := q
    have e : q2 = p := e
    subst e
    exact off q1 hq
  · intro q m
    rcases List.mem_cons.mp m with z | z
    · subst z
      exact ⟨(S.bs.fresh np).1, _, upd_same, noTup_lst⟩
    · exact S2.ow.st q z
  · have a := S.at_ j s e
    cases s with
    | no => trivial
    | dat d' =>
      obtain ⟨v', e1, t'⟩ := a
      exact ⟨v', e1, t'.stp st⟩
    | own ds =>
      obtain ⟨p', ys, e1, m, e2, t'⟩ := a
      exact ⟨p', ys, e1, List.mem_cons_of_mem _ m, by rw [upd_ne (ne_of_none e2 np)]; exact e2, t'.stp st⟩
    | ownd ds =>
      obtain ⟨p', o', ys, e1, m, e2, oe, t'⟩ := a
      exact ⟨p', o', ys, e1, List.mem_cons_of_mem _ m, by rw [upd_ne (ne_of_none e2 np)]; exact e2, oe, t'.stp st⟩
    | ins p' C0 dx0 es0 =>
      obtain ⟨e1, m, ys, e2, t'⟩ := a
      exact ⟨e1, List.mem_cons_of_mem _ m, ys, by rw [upd_ne (ne_of_none e2 np)]; exact e2, t'.stp st⟩
    | src => exact a
theorem Sts.putOwn (S : Sts K F O H σ δ) (np : H p = none) {xs : List V} {ds : List PyData} (t : Dts (F.cur O) K H xs ds) :
    Sts K F ((i, p) :: O) (upd H p (.lst xs)) (σ.set i (some (.ref p))) (δ.set i (.own ds)) ∧ Stp F O H ((i, p) :: O) (upd H p (.lst xs)) := by
  obtain ⟨S2, st⟩ := S.addOw np i xs
  exact ⟨S2.slot ⟨p, xs, rfl, List.mem_cons_self, upd_same, t.stp st⟩, st⟩
/-- an own list takes one more item -/
theorem Sts.push (S : Sts K F O H σ δ) {ds : List PyData} (h : δ[i]? = some (.own ds)) {v : V} {d : PyData} (t : Dt (F.cur O) K H v d) :
    ∃ p xs, σ[i]? = some (some (.ref p)) ∧ H p = some (.lst xs) ∧ xs.length = ds.length ∧ Sts K F O (upd H p (.lst (xs ++ [v]))) σ (δ.set i (.own (ds ++ [d]))) ∧ Stp F O H O (upd H p (.lst (xs ++ [v]))) := by
  obtain ⟨p, xs, e1, m, e2, t2⟩ := S.at_ i _ h
  have st : Stp F O H O (upd H p (.lst (xs ++ [v]))) := fun b o c e => by
    have nb : b ≠ p := fun z => by
      subst z
      exact c.2 i m
    exact ⟨c, by rw [upd_ne nb]; exact e⟩
  obtain ⟨h0, _⟩ := S.ow.st _ m
  have nmu : ¬ F.mu p := S.bs.ok.off _ (S.bs.ok.new _ h0)
  have hl : i < δ.length := (List.getElem?_eq_some_iff.mp h).1
  refine ⟨p, xs, e1, e2, t2.length, ⟨⟨S.bs.ok, fun b o n e => ?_, fun a c e => ?_⟩, ⟨S.ow.n2, fun q mq => ?_⟩, by rw [List.length_set]; exact S.len, fun j s e => ?_⟩, st⟩
  · have nb : b ≠ p := fun z => by
      subst z
      rw [h0] at e
      cases e
    rw [upd_ne nb]
    exact S.bs.base b o n e
  · obtain ⟨l, m', t', ns, k1, k2⟩ := S.bs.src a c e
    have na : a ≠ p := fun z => nmu ⟨a, c, e, .inl z.symm⟩
    have nc : c ≠ p := fun z => nmu ⟨a, c, e, .inr z.symm⟩
    exact ⟨l, m', t', ns, by rw [upd_ne na]; exact k1, by rw [upd_ne nc]; exact k2⟩
  · obtain ⟨k1, ys, k2, k3⟩ := S.ow.st q mq
    refine ⟨k1, ?_⟩
    by_cases z : q.2 = p
    · rw [z]
      exact ⟨_, upd_same, noTup_lst⟩
    · exact ⟨ys, by rw [upd_ne z]; exact k2, k3⟩
  · by_cases hj : i = j
    · subst hj
      rw [List.getElem?_set_self hl] at e
      cases e
      exact ⟨p, xs ++ [v], e1, m, upd_same, (t2.snoc t).stp st⟩
    · rw [List.getElem?_set_ne hj] at e
      have a := S.at_ j s e
      cases s with
      | no => trivial
      | dat d' =>
        obtain ⟨v', k1, t'⟩ := a
        exact ⟨v', k1, t'.stp st⟩
      | own ds' =>
        obtain ⟨p', ys, k1, m', k2, t'⟩ := a
        have np : p' ≠ p := fun z => by
          subst z
          have := ow_inj S.ow.n2 m' m rfl
          exact hj (Prod.mk.inj this).1.symm
        exact ⟨p', ys, k1, m', by rw [upd_ne np]; exact k2, t'.stp st⟩
      | ownd ds' =>
        obtain ⟨p', o', ys, k1, m', k2, oe, t'⟩ := a
        have np : p' ≠ p := fun z => by
          subst z
          have := ow_inj S.ow.n2 m' m rfl
          exact hj (Prod.mk.inj this).1.symm
        exact ⟨p', o', ys, k1, m', by rw [upd_ne np]; exact k2, oe, t'.stp st⟩
      | ins p' C0 dx0 es0 =>
        obtain ⟨k1, m', ys, k2, t'⟩ := a
        have np : p' ≠ p := fun z => by
          subst z
          have := ow_inj S.ow.n2 m' m rfl
          exact hj (Prod.mk.inj this).1.symm
        exact ⟨k1, m', ys, by rw [upd_ne np]; exact k2, t'.stp st⟩
      | src => exact a
/-- an own list is told as data from now on -/
theorem Sts.release (S : Sts K F O H σ δ) {ds : List PyData} (h : δ[i]? = some (.own ds)) : Sts K F (dropO O i) H σ (δ.set i (.dat (.list ds))) := by
  obtain ⟨p, xs, e1, m, e2, t2⟩ := S.at_ i _ h
  have hl : i < δ.length := (List.getElem?_eq_some_iff.mp h).1
  have cp : F.cur (dropO O i) p := by
    refine ⟨S.bs.ok.new _ (S.ow.st _ m).1, fun j mj => ?_⟩
    obtain ⟨m1, m2⟩ := mem_dropO.mp mj
    have := ow_inj S.ow.n2 m1 m rfl
    exact m2 (Prod.mk.inj this).1
  refine ⟨S.bs, S.ow.drop i, by rw [List.length_set]; exact S.len, fun j s e => ?_⟩
  by_cases hj : i = j
  · subst hj
    rw [List.getElem?_set_self hl] at e
    cases e
    exact ⟨.ref p, e1, .lst (.of cp e2) (t2.stp stp_drop)⟩
  · rw [List.getElem?_set_ne hj] at e
    have a := S.at_ j s e
    cases s with
    | no => trivial
    | dat d' =>
      obtain ⟨v', k1, t'⟩ := a
      exact ⟨v', k1, t'.stp stp_drop⟩
    | own ds' =>
      obtain ⟨p', ys, k1, m', k2, t'⟩ := a
      exact ⟨p', ys, k1, mem_dropO.mpr ⟨m', fun z => hj z.symm⟩, k2, t'.stp stp_drop⟩
    | ownd ds' =>
      obtain ⟨p', o', ys, k1, m', k2, oe, t'⟩ := a
      exact ⟨p', o', ys, k1, mem_dropO.mpr ⟨m', fun z => hj z.symm⟩, k2, oe, t'.stp stp_drop⟩
    | ins p' C0 dx0 es0 =>
      obtain ⟨k1, m', ys, k2, t'⟩ := a
      exact ⟨k1, mem_dropO.mpr ⟨m', fun z => hj z.symm⟩, ys, k2, t'.stp stp_drop⟩
    | src => exact a

/-! ### targets -/
theorem g_name {d : PyData} {N : Se → Prop} (n : N (δ.set i (.dat d))) : GV K F δ (gName i) d N := fun O H σ v S t Q q => q _ _ (S.put t) n
theorem gs_nil {N : Se → Prop} (n : N δ) : GsV K F δ gNil [] N := fun O H σ vs S t Q q => by
  cases t
  exact ⟨rfl, q _ _ S n⟩
theorem gs_cons {g : TG} {gs : TGs} {d : PyData} {ds : List PyData} {N : Se → Prop} (h : GV K F δ g d fun δ' => GsV K F δ' gs ds N) : GsV K F δ (gCons g gs) (d :: ds) N := fun O H σ vs S t Q q => by
  cases t with
  | cons t1 t2 => exact ⟨_, _, rfl, h O H σ _ S t1 _ fun σ1 δ1 S1 h1 => h1 O H σ1 _ S1 t2 Q fun σ2 δ2 S2 n => q σ2 δ2 S2 n⟩
theorem g_tup {n : Nat} {gs : TGs} {ds : List PyData} {N : Se → Prop} (hn : ds.length = n) (h : GsV K F δ gs ds N) : GV K F δ (gTup K n gs) (.tuple ds) N := fun O H σ v S t Q q => by
  cases t with
  | tup s t2 => exact ⟨_, _, rfl, s.sq, by rw [t2.length]; exact hn, h O H σ _ S t2 Q q⟩

/-! ### statements -/
theorem s_seq {t u : TS} (h : SV K F δ t { P with N := fun δ' => SV K F δ' u P }) : SV K F δ (tSeq t u) P := fun O H σ S D n r b c =>
  h O H σ S { D with nx := u D } (fun O1 H1 σ1 δ1 s1 S1 h1 => h1 O1 H1 σ1 S1 D (fun O2 H2 σ2 δ2 s2 => n O2 H2 σ2 δ2 (s1.trans s2)) r (fun O2 H2 σ2 δ2 s2 => b O2 H2 σ2 δ2 (s1.trans s2))
    fun O2 H2 σ2 δ2 s2 => c O2 H2 σ2 δ2 (s1.trans s2)) r b c
theorem s_next (h : P.N δ) : SV K F δ tNext P := fun O H σ S D n r b c => n O H σ δ .refl S h
theorem s_asg {g : TG} (h : EV K F δ te fun d => GV K F δ g d P.N) : SV K F δ (tAsg te g) P := fun O H σ S D n r b c =>
  h O H σ S _ fun H1 v d k1 S1 t1 h1 => h1 O H1 σ v S1 t1 _ fun σ2 δ2 S2 p => n O H1 σ2 δ2 (k1.stp S.bs.ok) S2 p
theorem s_own {t : TA} (h : EA K F δ t fun ds => ds.length ≤ 1000000 ∧ P.N (δ.set i (.own ds))) : SV K F δ (tAsg (tLst t) (gName i)) P := fun O H σ S D n r b c =>
  h O H σ S _ fun H1 vs ds k1 S1 t1 ⟨hl, p⟩ => ⟨small_size (by rw [t1.length]; exact hl), fun p' np => by
    obtain ⟨S2, s2⟩ := S1.putOwn (i := i) np t1
    exact n _ _ _ _ ((k1.stp S.bs.ok).trans s2) S2 p⟩
theorem s_ret (h : EV K F δ te P.R) : SV K F δ (tRet te) P := fun O H σ S D n r b c =>
  h O H σ S _ fun H1 v d k1 S1 t1 p => r H1 v d S1.bs (t1.mono fun _ z => z.1) p
theorem s_push {ds : List PyData} (h : δ[i]? = some (.own ds)) (hv : EV K F δ te fun d => ds.length < 1000000 ∧ P.N (δ.set i (.own (ds ++ [d])))) :
    SV K F δ (tDrop (tBM K "list" rAppend (tVar i) (tCons te tNil))) P := fun O H σ S D n r b c => by
  obtain ⟨p, xs, e1, m, e2, t2⟩ := S.at_ i _ h
  refine ⟨.ref p, e1, .inl ⟨rfl, _, .inl (.inl e2)⟩, hv O H σ S _ fun H1 v d k1 S1 t1 ⟨hl, q⟩ => ?_⟩
  obtain ⟨p', xs', f1, f2, f3, S2, s2⟩ := S1.push h t1
  rw [e1] at f1
  cases f1
  exact ⟨p, xs', v, rfl, rfl, f2, Nat.lt_of_lt_of_le (by rw [f3]; exact hl) (by decide), n _ _ _ _ ((k1.stp S.bs.ok).trans s2) S2 q⟩
theorem s_rel {ds : List PyData} {t : TS} (h : δ[i]? = some (.own ds)) (k : SV K F (δ.set i (.dat (.list ds))) t P) : SV K F δ t P := fun O H σ S D n r b c =>
  k _ H σ (S.release h) D (fun O2 H2 σ2 δ2 s2 => n O2 H2 σ2 δ2 (stp_drop.trans s2)) r (fun O2 H2 σ2 δ2 s2 => b O2 H2 σ2 δ2 (stp_drop.trans s2)) fun O2 H2 σ2 δ2 s2 => c O2 H2 σ2 δ2 (stp_drop.trans s2)
theorem s_if {c : TT} {t u : TS} (h : BV K F δ c fun b => (b = true → SV K F δ t P) ∧ (b = false → SV K F δ u P)) : SV K F δ (tIfS c t u) P := fun O H σ S D n r b c =>
  h O H σ S _ fun H1 x k1 S1 ⟨h1, h2⟩ => by
    have s1 : Stp F O H O H1 := k1.stp S.bs.ok
    cases x with
    | true => exact h1 rfl O H1 σ S1 D (fun O2 H2 σ2 δ2 s2 => n O2 H2 σ2 δ2 (s1.trans s2)) r (fun O2 H2 σ2 δ2 s2 => b O2 H2 σ2 δ2 (s1.trans s2)) fun O2 H2 σ2 δ2 s2 => c O2 H2 σ2 δ2 (s1.trans s2)
    | false => exact h2 rfl O H1 σ S1 D (fun O2 H2 σ2 δ2 s2 => n O2 H2 σ2 δ2 (s1.trans s2)) r (fun O2 H2 σ2 δ2 s2 => b O2 H2 σ2 δ2 (s1.trans s2)) fun O2 H2 σ2 δ2 s2 => c O2 H2 σ2 δ2 (s1.trans s2)
theorem s_par {j : Nat} {t : TA} (h : EA K F δ t fun ds => ∃ d e, ds = [d, e] ∧ P.N ((δ.set i (.dat d)).set j (.dat e))) : SV K F δ (tPar i j t) P := fun O H σ S D n r b c =>
  h O H σ S _ fun H1 vs ds k1 S1 t1 ⟨d, e, z, p⟩ => by
    subst z
    obtain ⟨v, w, rfl, h1, h2⟩ := dts_two t1
    exact ⟨v, w, rfl, n _ _ _ _ (k1.stp S.bs.ok) ((S1.put h1).put h2) p⟩
/-! ### loops -/
/-- what a for walks: data items, standing still -/
structure WiD (K : PySem.W.Frag) (F : Fx) (δ : Se) (wi : TI) (G : (List PyData → Prop) → Prop) : Prop where
  mono : ∀ M M' : List PyData → Prop, (∀ ds, M ds → M' ds) → G M → G M'
  run : ∀ (O : Ow) (H : Hp) (σ : L2.St) (M : List PyData → Prop) (R : It → Hp → Prop), Sts K F O H σ δ → G M →
    (∀ H' (J : It) (ds : List PyData), Kp F H H' → Sts K F O H' σ δ → M ds →
      (∀ O2 H2 i, Stp F O H' O2 H2 → (∀ T, H2 T = none → F.cur O2 T) → (i < ds.length → J.go i H2 ∧ ∀ x H3, J.yld i H2 x H3 → Same H2 H3 ∧ ∃ d, ds[i]? = some d ∧ Dt (F.cur O2) K H3 x d) ∧ (ds.length ≤ i → J.stop i H2)) → R J H') → wi σ H R
theorem w_list {tl : TE} : WiD K F δ (iList K tl) (fun M => EV K F δ tl fun d => ∃ ds, d = .list ds ∧ M ds) :=
  ⟨fun M M' m h => h.mono fun d ⟨ds, e, z⟩ => ⟨ds, e, m ds z⟩, fun O H σ M R S h k => h O H σ S _ fun H1 v d k1 S1 t1 ⟨ds, e, m⟩ => by
    subst e
    cases t1 with
    | lst s t =>
      refine ⟨_, rfl, ⟨_, s.sq⟩, k H1 _ ds k1 S1 m fun O2 H2 i s2 fr => ?_⟩
      have q := s.keep (av' := F.cur O2) (H' := H2) fun c o e => s2 _ o c e
      have t2 := t.stp s2
      refine ⟨fun hi => ?_, fun hi => ⟨_, q.sq, by rw [t.length]; exact hi⟩⟩
      have hv := List.getElem?_eq_getElem (show i < _ by rw [t.length]; exact hi)
      refine ⟨⟨_, _, q.sq, hv⟩, fun x H3 y => ?_⟩
      obtain ⟨y1, y2⟩ := y
      subst y1
      obtain ⟨d, e1, t3⟩ := t2.get (y2 _ q.sq)
      exact ⟨fun _ _ h => h, d, e1, t3⟩⟩
theorem w_tup {tl : TE} : WiD K F δ (iTup K tl) (fun M => EV K F δ tl fun d => ∃ ds, d = .tuple ds ∧ M ds) :=
  ⟨fun M M' m h => h.mono fun d ⟨ds, e, z⟩ => ⟨ds, e, m ds z⟩, fun O H σ M R S h k => h O H σ S _ fun H1 v d k1 S1 t1 ⟨ds, e, m⟩ => by
    subst e
    cases t1 with
    | tup s t =>
      refine ⟨_, rfl, ⟨_, s.sq⟩, k H1 _ ds k1 S1 m fun O2 H2 i s2 fr => ?_⟩
      have q := s.keep (av' := F.cur O2) (H' := H2) fun c o e => s2 _ o c e
      have t2 := t.stp s2
      refine ⟨fun hi => ?_, fun hi => ⟨_, q.sq, by rw [t.length]; exact hi⟩⟩
      have hv := List.getElem?_eq_getElem (show i < _ by rw [t.length]; exact hi)
      refine ⟨⟨_, _, q.sq, hv⟩, fun x H3 y => ?_⟩
      obtain ⟨y1, y2⟩ := y
      subst y1
      obtain ⟨d, e1, t3⟩ := t2.get (y2 _ q.sq)
      exact ⟨fun _ _ h => h, d, e1, t3⟩⟩
/-- 0, 1, .. below n -/
def rangeD (lo : Int) (n : Nat) : List PyData := (List.range n).map fun k : Nat => .int (lo + (k : Int))
theorem rangeD_len (lo : Int) (n : Nat) : (rangeD lo n).length = n := by simp [rangeD]
theorem rangeD_get {lo : Int} {n i : Nat} (h : i < n) : (rangeD lo n)[i]? = some (.int (lo + (i : Int))) := by simp [rangeD, h]
theorem w_range1 {t : TA} : WiD K F δ (iRng1 t) (fun M => EA K F δ t fun ds => ∃ j : Int, ds = [.int j] ∧ -(2 ^ 62) ≤ j ∧ j < 2 ^ 62 ∧ M (rangeD 0 j.toNat)) :=
  ⟨fun M M' m h => h.mono fun d ⟨j, e, b1, b2, z⟩ => ⟨j, e, b1, b2, m _ z⟩, fun O H σ M R S h k => h O H σ S _ fun H1 vs ds k1 S1 t1 ⟨j, e, b1, b2, m⟩ => by
    subst e
    obtain ⟨v, rfl, t2⟩ := dts_one t1
    cases t2
    refine ⟨j, rfl, b1, b2, k H1 _ _ k1 S1 m fun O2 H2 i s2 fr => ?_⟩
    rw [rangeD_len]
    refine ⟨fun hi => ⟨hi, fun x H3 y => ?_⟩, fun hi => hi⟩
    obtain ⟨y1, y2⟩ := y
    subst y1 y2
    exact ⟨fun _ _ h => h, _, rangeD_get hi, .int _⟩⟩
/-- a for: I i holds ahead of turn i -/
theorem s_for {wi : TI} {g : TG} {tb : TS} {G : (List PyData → Prop) → Prop} (w : WiD K F δ wi G)
    (h : G fun ds => ∃ I : Nat → Se → Prop, I 0 δ ∧ (∀ i x δ', ds[i]? = some x → I i δ' → GV K F δ' g x fun δ2 => SV K F δ2 tb ⟨I (i + 1), P.R, P.N, I (i + 1)⟩) ∧ ∀ δ', I ds.length δ' → P.N δ') :
    SV K F δ (tFor wi g tb) P := fun O H σ S D n r b c => by
  refine w.run O H σ _ _ S h fun H1 J ds k1 S1 ⟨I, h0, turn, fin⟩ walk => ?_
  refine ⟨fun i m σ2 H2 => i + m = ds.length ∧ ∃ O2 δ2, Stp F O H1 O2 H2 ∧ Sts K F O2 H2 σ2 δ2 ∧ I i δ2, ⟨ds.length, by omega, O, δ, .refl, S1, h0⟩, ?_⟩
  rintro i m σ2 H2 ⟨em, O2, δ2, s2, S2, hI⟩
  obtain ⟨w1, w2⟩ := walk O2 H2 i s2 fun _ n => S2.fresh n
  have s0 : Stp F O H O2 H2 := (k1.stp S.bs.ok).trans s2
  by_cases hi : i < ds.length
  · obtain ⟨go, yl⟩ := w1 hi
    refine .inr ⟨go, fun σ3 H3 => ∃ O3 δ3, Stp F O H1 O3 H3 ∧ Sts K F O3 H3 σ3 δ3 ∧ I (i + 1) δ3, ?_, fun x H3 y => ?_⟩
    · rintro σ3 H3 ⟨O3, δ3, s3, S3, hI3⟩
      exact ⟨m - 1, by omega, by omega, O3, δ3, s3, S3, hI3⟩
    · obtain ⟨e3, d, e1, t1⟩ := yl x H3 y
      have S2 := S2.same e3
      have k3 : Stp F O2 H2 O2 H3 := (Kp.same e3).stp S.bs.ok
      have s2 := s2.trans k3
      have s0 := s0.trans k3
      refine turn i d δ2 e1 hI O2 _ σ2 x S2 t1 _ fun σ3 δ3 S3 body => ?_
      exact body O2 _ σ3 S3 _ (fun O4 H4 σ4 δ4 s4 S4 p => ⟨O4, δ4, s2.trans s4, S4, p⟩) r (fun O4 H4 σ4 δ4 s4 S4 p => n O4 H4 σ4 δ4 (s0.trans s4) S4 p)
        (fun O4 H4 σ4 δ4 s4 S4 p => ⟨O4, δ4, s2.trans s4, S4, p⟩)
  · exact .inl ⟨w2 (by omega), n O2 H2 σ2 δ2 s0 S2 (fin δ2 (by rwa [show i = ds.length by omega] at hI))⟩

/-! ### comprehensions -/
def wipeS (δ : Se) : List Nat → Se
  | [] => δ
  | v :: vs => (wipeS δ vs).set v .no
theorem wipeS_length (δ : Se) : ∀ vs, (wipeS δ vs).length = δ.length
  | [] => rfl
  | v :: vs => by
    unfold wipeS
    rw [List.length_set, wipeS_length δ vs]
theorem Sts.forget (S : Sts K F O H σ δ) (i : Nat) : Sts K F O H (σ.set i none) (δ.set i .no) := by
  refine ⟨S.bs, S.ow, by rw [List.length_set, List.length_set]; exact S.len, fun j s e => ?_⟩
  by_cases h : i = j
  · subst h
    have hl : i < δ.length := by
      have := (List.getElem?_eq_some_iff.mp e).1
      rwa [List.length_set] at this
    rw [List.getElem?_set_self hl] at e
    cases e
    trivial
  · rw [List.getElem?_set_ne h] at e ⊢
    exact S.at_ j s e
theorem Sts.wipe (S : Sts K F O H σ δ) : ∀ vs, Sts K F O H (L2.wipe σ vs) (wipeS δ vs)
  | [] => S
  | v :: vs => (S.wipe vs).forget v
/-- a target that stores into vs alone -/
structure GW (g : TG) (vs : List Nat) : Prop where
  run : ∀ (v : V) (σ : L2.St) (H : Hp) (Q Q' : L2.St → Hp → Prop), (∀ σ2 H2, wipe σ2 vs = wipe σ vs → Q σ2 H2 → Q' σ2 H2) → g v σ H Q → g v σ H Q'
structure GWs (g : TGs) (vs : List Nat) : Prop where
  run : ∀ (xs : List V) (σ : L2.St) (H : Hp) (Q Q' : L2.St → Hp → Prop), (∀ σ2 H2, wipe σ2 vs = wipe σ vs → Q σ2 H2 → Q' σ2 H2) → g xs σ H Q → g xs σ H Q'
theorem wipe_sw {σ : L2.St} {i : Nat} {x : Option V} : ∀ us : List Nat, (wipe (σ.set i x) us).set i none = (wipe σ us).set i none
  | [] => by
    show (σ.set i x).set i none = σ.set i none
    rw [List.set_set]
  | u :: us => by
    show ((wipe (σ.set i x) us).set u none).set i none = ((wipe σ us).set u none).set i none
    by_cases e : u = i
    · subst e
      rw [List.set_set, List.set_set]
      exact wipe_sw us
    · rw [List.set_comm _ _ e, List.set_comm _ _ e, wipe_sw us]
theorem wipe_set {σ : L2.St} {i : Nat} {x : Option V} : ∀ {vs : List Nat}, i ∈ vs → wipe (σ.set i x) vs = wipe σ vs
  | v :: vs, h => by
    show (wipe (σ.set i x) vs).set v none = (wipe σ vs).set v none
    rcases List.mem_cons.mp h with rfl | h
    · exact wipe_sw vs
    · rw [wipe_set h]
theorem wipe_wipe {σ : L2.St} : ∀ vs : List Nat, wipe (wipe σ vs) vs = wipe σ vs
  | [] => rfl
  | v :: vs => by
    show (wipe ((wipe σ vs).set v none) vs).set v none = (wipe σ vs).set v none
    rw [wipe_sw vs, wipe_wipe vs]
theorem gw_name {vs : List Nat} (h : i ∈ vs) : GW (gName i) vs := ⟨fun v σ H Q Q' m q => m _ _ (wipe_set h) q⟩
theorem gws_nil {vs : List Nat} : GWs gNil vs := ⟨fun xs σ H Q Q' m ⟨e, q⟩ => ⟨e, m _ _ rfl q⟩⟩
theorem gws_cons {vs : List Nat} {g : TG} {gs : TGs} (h : GW g vs) (t : GWs gs vs) : GWs (gCons g gs) vs := ⟨fun xs σ H Q Q' m ⟨v, r, e, q⟩ =>
  ⟨v, r, e, h.run v σ H _ _ (fun σ2 H2 e2 q2 => t.run r σ2 H2 _ _ (fun σ3 H3 e3 q3 => m σ3 H3 (e3.trans e2) q3) q2) q⟩⟩
theorem gw_tup {vs : List Nat} {gs : TGs} {n : Nat} (t : GWs gs vs) : GW (gTup K n gs) vs := ⟨fun v σ H Q Q' m ⟨a, xs, e, s, l, q⟩ => ⟨a, xs, e, s, l, t.run xs σ H _ _ m q⟩⟩
/-- a list comprehension: I i holds of what is made ahead of turn i -/
theorem v_lc {wi : TI} {g : TG} {tt : TT} {vs : List Nat} {G : (List PyData → Prop) → Prop} {PD : PyData → Prop} (w : WiD K F δ wi G) (gw : GW g vs)
    (h : G fun ds => ∃ I : Nat → List PyData → Prop, I 0 [] ∧ (∀ i x acc, ds[i]? = some x → I i acc → GV K F (wipeS δ vs) g x fun δ2 => BV K F δ2 tt fun b =>
      (b = true → EV K F δ2 te fun y => acc.length < 1000000 ∧ I (i + 1) (acc ++ [y])) ∧ (b = false → I (i + 1) acc)) ∧ ∀ acc, I ds.length acc → PD (.list acc)) :
    EV K F δ (tLc wi g tt te vs) PD := fun O H σ S Q q => by
  refine w.run O H σ _ _ S h fun H1 J ds k1 S1 ⟨I, h0, turn, fin⟩ walk D nD => ?_
  obtain ⟨S2, st2⟩ := S1.addOw nD 0 []
  refine ⟨fun i m H2 => i + m = ds.length ∧ Kp F H1 H2 ∧ Sts K F ((0, D) :: O) H2 σ δ ∧ ∃ acc xs, H2 D = some (.lst xs) ∧ Dts (F.cur ((0, D) :: O)) K H2 xs acc ∧ I i acc,
    ⟨ds.length, by omega, .new nD, S2, [], [], upd_same, .nil, h0⟩, ?_⟩
  rintro i m H2 ⟨em, k2, S3, acc, xs, hD, ta, hI⟩
  have s3 : Stp F O H1 ((0, D) :: O) H2 := fun b o c e => by
    have nb : b ≠ D := ne_of_none e nD
    refine ⟨⟨c.1, fun j mj => ?_⟩, k2 b o (S.bs.ok.off b c.1) e⟩
    rcases List.mem_cons.mp mj with z | z
    · exact nb (Prod.mk.inj z).2
    · exact c.2 j z
  obtain ⟨w1, w2⟩ := walk _ H2 i s3 fun _ n => S3.fresh n
  have nmu : ¬ F.mu D := (S1.bs.fresh nD).2.1
  by_cases hi : i < ds.length
  · obtain ⟨go, yl⟩ := w1 hi
    refine .inr ⟨go, fun H4 => Kp F H1 H4 ∧ Sts K F ((0, D) :: O) H4 σ δ ∧ ∃ acc xs, H4 D = some (.lst xs) ∧ Dts (F.cur ((0, D) :: O)) K H4 xs acc ∧ I (i + 1) acc, ?_, fun x H3 y => ?_⟩
    · rintro H4 ⟨k4, S4, r⟩
      exact ⟨m - 1, by omega, by omega, k4, S4, r⟩
    · obtain ⟨e3, d, e1, t1⟩ := yl x H3 y
      have S3 := S3.same e3
      have k2 := k2.trans (Kp.same (F := F) e3)
      have hD := e3 _ _ hD
      have ta := ta.stp ((Kp.same e3).stp (O := (0, D) :: O) S.bs.ok)
      refine gw.run _ _ _ _ _ (fun σ5 H5 e5 q5 => ⟨e5.trans (wipe_wipe vs), q5⟩) (turn i d acc e1 hI _ _ _ x (S3.wipe vs) t1 _ fun σ5 δ5 S5 hb => ?_)
      refine hb _ _ σ5 S5 _ fun H6 b k6 S6 ⟨hb1, hb2⟩ => ?_
      have k16 := k2.trans k6
      have src6 : ∀ a c, F.sr = some (a, c) → Src H6 a c := S6.bs.src
      have hD6 : H6 D = some (.lst xs) := k6 _ _ nmu hD
      cases b with
      | false => exact ⟨k16, S3.kp k6 src6, acc, xs, hD6, ta.stp (k6.stp S.bs.ok), hb2 rfl⟩
      | true =>
        refine hb1 rfl _ H6 σ5 S6 _ fun H7 v r k7 S7 t7 ⟨hl, hr⟩ => ?_
        have hD7 : H7 D = some (.lst xs) := k7 _ _ nmu hD6
        have ta7 := ta.stp ((k6.trans k7).stp S.bs.ok)
        have S8 := S3.kp (k6.trans k7) S7.bs.src
        have nD0 : F.H0 D = none := (S1.bs.fresh nD).1
        -- the new list grows
        have grow : Stp F ((0, D) :: O) H7 ((0, D) :: O) (upd H7 D (.lst (xs ++ [v]))) := fun b o c e => by
          have nb : b ≠ D := fun z => by
            subst z
            exact c.2 0 List.mem_cons_self
          exact ⟨c, by rw [upd_ne nb]; exact e⟩
        refine ⟨xs, hD7, Nat.lt_of_lt_of_le (by rw [ta7.length]; exact hl) (by decide), fun b o n e => ?_, ⟨⟨S.bs.ok, fun b o n e => ?_, fun a c e => ?_⟩, ⟨S8.ow.n2, fun q' mq => ?_⟩, S8.len, fun j s e => ?_⟩, acc ++ [r], xs ++ [v], upd_same, (ta7.snoc t7).stp grow, hr⟩
        · rw [upd_ne (ne_of_none e nD)]
          exact k7 b o n (k16 b o n e)
        · have nb : b ≠ D := fun z => by
            subst z
            rw [nD0] at e
            cases e
          rw [upd_ne nb]
          exact S8.bs.base b o n e
        · obtain ⟨l, m', t', ns, g1, g2⟩ := S8.bs.src a c e
          have na : a ≠ D := fun z => nmu ⟨a, c, e, .inl z.symm⟩
          have nc : c ≠ D := fun z => nmu ⟨a, c, e, .inr z.symm⟩
          exact ⟨l, m', t', ns, by rw [upd_ne na]; exact g1, by rw [upd_ne nc]; exact g2⟩
        · obtain ⟨g1, ys, g2, g3⟩ := S8.ow.st q' mq
          refine ⟨g1, ?_⟩
          by_cases z : q'.2 = D
          · rw [z]
            exact ⟨_, upd_same, noTup_lst⟩
          · exact ⟨ys, by rw [upd_ne z]; exact g2, g3⟩
        · have a := S8.at_ j s e
          cases s with
          | no => trivial
          | dat d' =>
            obtain ⟨v', g1, t'⟩ := a
            exact ⟨v', g1, t'.stp grow⟩
          | own ds' =>
            obtain ⟨p', ys, g1, m', g2, t'⟩ := a
            have np : p' ≠ D := fun z => by
              subst z
              rcases List.mem_cons.mp m' with z | z
              · obtain ⟨p1, xs1, f1, f2, f3, _⟩ := S1.at_ j _ e
                rw [g1] at f1
                cases f1
                rw [nD] at f3
                cases f3
              · exact S1.ow.off nD j z
            exact ⟨p', ys, g1, m', by rw [upd_ne np]; exact g2, t'.stp grow⟩
          | ownd ds' =>
            obtain ⟨p', o', ys, g1, m', g2, oe, t'⟩ := a
            have np : p' ≠ D := fun z => by
              subst z
              rcases List.mem_cons.mp m' with z | z
              · obtain ⟨p1, o1, xs1, f1, f2, f3, _⟩ := S1.at_ j _ e
                rw [g1] at f1
                cases f1
                rw [nD] at f3
                cases f3
              · exact S1.ow.off nD j z
            exact ⟨p', o', ys, g1, m', by rw [upd_ne np]; exact g2, oe, t'.stp grow⟩
          | ins p' C0 dx0 es0 =>
            obtain ⟨g1, m', ys, g2, t'⟩ := a
            have np : p' ≠ D := fun z => by
              subst z
              rcases List.mem_cons.mp m' with z | z
              · obtain ⟨f1, f2, xs1, f3, _⟩ := S1.at_ j _ e
                rw [g1] at f1
                cases f1
                rw [nD] at f3
                cases f3
              · exact S1.ow.off nD j z
            exact ⟨g1, m', ys, by rw [upd_ne np]; exact g2, t'.stp grow⟩
          | src => exact a
  · have hS : Sts K F O H2 σ δ := S1.kp k2 S3.bs.src
    refine .inl ⟨w2 (by omega), q H2 _ _ (k1.trans k2) hS (.lst (.of (S1.fresh nD) hD) (ta.mono fun b c => ⟨c.1, fun j mj => c.2 j (List.mem_cons_of_mem _ mj)⟩)) (fin acc (by rwa [show i = ds.length by omega] at hI))⟩
end
end Pg
/-! Pg5: promises of defs over data, calls of such, lists put together. -/
namespace Pg
open PySem PySem.Spec PyProof.Rows L2

/-- a def over data: of what is handed in it tells what G asks; all that stood stands -/
def spD (K : PySem.W.Frag) (G : List PyData → (PyData → Prop) → Prop) : Sp := fun vs H Q _ => ∃ (av : Addr → Prop) (ds : List PyData) (P : PyData → Prop),
  Dts av K H vs ds ∧ G ds P ∧ ∀ H' v d, Same H H' → Dt (fun b => av b ∨ H b = none) K H' v d → P d → Q v H'
/-- the same of a def that draws from the source, its first argument -/
def spS (K : PySem.W.Frag) (G : List PyData → (PyData → Prop) → Prop) : Sp := fun vs H Q _ => ∃ (a c : Addr) (vs' : List V) (av : Addr → Prop) (ds : List PyData) (P : PyData → Prop),
  vs = .ref a :: vs' ∧ Src H a c ∧ (∀ b, av b → Off a c b) ∧ Dts av K H vs' ds ∧ G ds P ∧ ∀ H' v d, Run a c H H' → Dt (fun b => av b ∨ H b = none) K H' v d → P d → Q v H'
def startS (N : List Str) (ds : List PyData) : Se := ds.map .dat ++ List.replicate (N.length - ds.length) .no
def drawS (N : List Str) (ds : List PyData) : Se := .src :: (ds.map .dat ++ List.replicate (N.length - ds.length - 1) .no)
theorem start_at {av av' : Addr → Prop} {K : PySem.W.Frag} {F : Fx} {H : Hp} (m : ∀ b, av b → F.cur [] b) : ∀ {vs : List V} {ds : List PyData} {n m' : Nat} {i : Nat} {s : Sl}, Dts av K H vs ds →
    (ds.map Sl.dat ++ List.replicate n Sl.no)[i]? = some s → SlOk K F [] H (i + m') ((vs.map some ++ List.replicate n none)[i]?) s
  | _, _, n, m', i, s, .nil, e => by
    rw [List.map_nil, List.nil_append] at e
    have : s = .no := List.eq_of_mem_replicate (List.mem_of_getElem? e)
    subst this
    trivial
  | _, _, n, m', 0, s, .cons h t, e => by
    cases e
    exact ⟨_, rfl, h.mono m⟩
  | _, _, n, m', i + 1, s, .cons h t, e => by
    have q := start_at (F := F) (av' := av') m (n := n) (m' := m' + 1) (i := i) t e
    rw [show i + 1 + m' = i + (m' + 1) by omega]
    exact q
section
variable {P : Program} {w : World} {K : PySem.W.Frag} {mg : Str → Option Value} {base : Heap}
theorem FnG.dat {x q : Str} {st : Stmt} {f : Addr} {fd : FuncData} {N ps : List Str} {k : Nat} {G : List PyData → (PyData → Prop) → Prop}
    (Fu : Fun K x q st f fd) (S : FnScope N ps (defScope st)) (ar : ∀ ds P, G ds P → ds.length = ps.length)
    (main : ∀ (cdv : Value) (A : Around) (outer : List Env) (s : Shared) (H : Hp) (E : XK), A.guards = some [] → Room k (A.deeper (envOfC q (defScope st) s.heap.objs.size f cdv)) →
      ∀ (F : Fx), F.sr = none → ∀ (ds : List PyData) (R : PyData → Prop), G ds R →
      ∃ t, PSs (cxOf CX0 P w K mg base N q (defScope st) f cdv A outer s H E).nox (defBody st) t ∧ SV K F (startS N ds) t ⟨fun _ => R .none, R, fun _ => False, fun _ => False⟩) :
    FnG CX0 P w K mg base (k + 1) f fd ps (spD K G) := by
  refine FnG.of_fun Fu S (fun vs H Q E h => ?_) (fun cdv A outer s H vs Q E gd hr h => ?_)
  · obtain ⟨av, ds, R, t, g, _⟩ := h
    exact t.length.trans (ar _ _ g)
  · obtain ⟨av, ds, R, t, g, q⟩ := h
    let F : Fx := ⟨H, fun b => av b ∨ H b = none, none⟩
    have ok : F.Ok := ⟨fun b n => .inr n, fun b _ ⟨a, c, e, _⟩ => by cases e⟩
    obtain ⟨tt, pt, sv⟩ := main cdv A outer s H E gd hr F rfl ds R g
    refine ⟨tt, pt, sv [] H (start N vs) ⟨⟨ok, fun b o _ e => e, fun a c e => by cases e⟩, ⟨.nil, fun q m => by cases m⟩, ?_, fun i s e => ?_⟩ _ ?_ ?_ ?_ ?_⟩
    · show (vs.map some ++ List.replicate (N.length - vs.length) none).length = (ds.map Sl.dat ++ List.replicate (N.length - ds.length) Sl.no).length
      rw [List.length_append, List.length_append, List.length_map, List.length_map, List.length_replicate, List.length_replicate, t.length]
    · have z := start_at (F := F) (av' := av) (fun b c => ⟨.inl c, fun i m => by cases m⟩) (n := N.length - ds.length) (m' := 0) t e
      show SlOk K F [] H i ((vs.map some ++ List.replicate (N.length - vs.length) none)[i]?) s
      rw [t.length]
      exact z
    · intro O' H' σ' δ' s' S' r
      exact q H' _ _ (fun b o e => S'.bs.base b o (fun ⟨a, c, e, _⟩ => by cases e) e) .non r
    · intro H' v d B t' r
      exact q H' v d (fun b o e => B.base b o (fun ⟨a, c, e, _⟩ => by cases e) e) t' r
    · intro _ _ _ _ _ _ r
      exact r.elim
    · intro _ _ _ _ _ _ r
      exact r.elim
theorem FnG.drw {x q : Str} {st : Stmt} {f : Addr} {fd : FuncData} {N ps : List Str} {k : Nat} {G : List PyData → (PyData → Prop) → Prop}
    (Fu : Fun K x q st f fd) (S : FnScope N ps (defScope st)) (ar : ∀ ds P, G ds P → ds.length + 1 = ps.length)
    (main : ∀ (cdv : Value) (A : Around) (outer : List Env) (s : Shared) (H : Hp) (E : XK), A.guards = some [] → Room k (A.deeper (envOfC q (defScope st) s.heap.objs.size f cdv)) →
      ∀ (F : Fx) (ds : List PyData) (R : PyData → Prop), G ds R →
      ∃ t, PSs (cxOf CX0 P w K mg base N q (defScope st) f cdv A outer s H E).nox (defBody st) t ∧ SV K F (drawS N ds) t ⟨fun _ => R .none, R, fun _ => False, fun _ => False⟩) :
    FnG CX0 P w K mg base (k + 1) f fd ps (spS K G) := by
  refine FnG.of_fun Fu S (fun vs H Q E h => ?_) (fun cdv A outer s H vs Q E gd hr h => ?_)
  · obtain ⟨a, c, vs', av, ds, R, rfl, _, _, t, g, _⟩ := h
    rw [List.length_cons, t.length]
    exact ar _ _ g
  · obtain ⟨a, c, vs', av, ds, R, rfl, src, off, t, g, q⟩ := h
    let F : Fx := ⟨H, fun b => av b ∨ H b = none, some (a, c)⟩
    have ok : F.Ok := ⟨fun b n => .inr n, fun b z ⟨a', c', e, h⟩ => by
      cases e
      have : Off a c b := z.elim (off b) fun n => src.off n
      exact h.elim this.1 this.2⟩
    have nmu : ∀ b, b ≠ a → b ≠ c → ¬ F.mu b := fun b n1 n2 ⟨a', c', e, h⟩ => by
      cases e
      exact h.elim n1 n2
    obtain ⟨tt, pt, sv⟩ := main cdv A outer s H E gd hr F ds R g
    refine ⟨tt, pt, sv [] H (start N (.ref a :: vs')) ⟨⟨ok, fun b o _ e => e, fun a' c' e => by cases e; exact src⟩, ⟨.nil, fun q m => by cases m⟩, ?_, fun i s e => ?_⟩ _ ?_ ?_ ?_ ?_⟩
    · show ((some (V.ref a) :: vs'.map some) ++ List.replicate (N.length - (vs'.length + 1)) none).length = (Sl.src :: (ds.map Sl.dat ++ List.replicate (N.length - ds.length - 1) Sl.no)).length
      rw [List.cons_append, List.length_cons, List.length_cons, List.length_append, List.length_append, List.length_map, List.length_map, List.length_replicate, List.length_replicate, t.length]
      omega
    · cases i with
      | zero =>
        cases e
        exact ⟨a, c, rfl, rfl⟩
      | succ i =>
        have e2 : (ds.map Sl.dat ++ List.replicate (N.length - ds.length - 1) Sl.no)[i]? = some s := e
        have z := start_at (F := F) (av' := av) (fun b c => ⟨.inl c, fun i m => by cases m⟩) (n := N.length - ds.length - 1) (m' := 1) t e2
        show SlOk K F [] H (i + 1) ((vs'.map some ++ List.replicate (N.length - (vs'.length + 1)) none)[i]?) s
        rw [show N.length - (vs'.length + 1) = N.length - ds.length - 1 by rw [t.length]; omega]
        exact z
    · intro O' H' σ' δ' s' S' r
      exact q H' _ _ ⟨S'.bs.src a c rfl, fun b o n1 n2 e => S'.bs.base b o (nmu b n1 n2) e⟩ .non r
    · intro H' v d B t' r
      exact q H' v d ⟨B.src a c rfl, fun b o n1 n2 e => B.base b o (nmu b n1 n2) e⟩ t' r
    · intro _ _ _ _ _ _ r
      exact r.elim
    · intro _ _ _ _ _ _ r
      exact r.elim
end
/-- a law's def behind its first statement, which opens the source into the j-th slot -/
def lawS (n j : Nat) : Se := (List.replicate n Sl.no).set j .src
theorem law_enter {K : PySem.W.Frag} {H1 : Hp} {p c : Addr} {σ : L2.St} {n j : Nat} {Q : VK} {t : TS} (S : Src H1 p c) (hl : σ.length = n) (hj : σ[j]? = some (some (.ref p))) (q : ∀ H', Q (.bl true) H')
    (h : ∀ F : Fx, SV K F (lawS n j) t ⟨fun _ => False, fun d => d = .bool true, fun _ => False, fun _ => False⟩) : t { nx := fun _ h => Q .non h, rt := Q } σ H1 := by
  let F : Fx := ⟨H1, Off p c, some (p, c)⟩
  have ok : F.Ok := ⟨fun b n => S.off n, fun b z ⟨a', c', e, h⟩ => by
    cases e
    exact h.elim z.1 z.2⟩
  refine h F [] H1 σ ⟨⟨ok, fun b o _ e => e, fun a' c' e => by cases e; exact S⟩, ⟨.nil, fun q m => by cases m⟩, ?_, fun i s e => ?_⟩ _ ?_ ?_ ?_ ?_
  · unfold lawS
    rw [List.length_set, List.length_replicate]
    exact hl
  · unfold lawS at e
    by_cases z : j = i
    · subst z
      have lt : j < n := by
        have := (List.getElem?_eq_some_iff.mp e).1
        rwa [List.length_set, List.length_replicate] at this
      rw [List.getElem?_set_self (by rw [List.length_replicate]; exact lt)] at e
      cases e
      exact ⟨p, c, rfl, hj⟩
    · rw [List.getElem?_set_ne z] at e
      have : s = .no := List.eq_of_mem_replicate (List.mem_of_getElem? e)
      subst this
      trivial
  · intro _ _ _ _ _ _ r
    exact r.elim
  · intro H' v d B t' r
    subst r
    cases t'
    exact q H'
  · intro _ _ _ _ _ _ r
    exact r.elim
  · intro _ _ _ _ _ _ r
    exact r.elim
section
variable {K : PySem.W.Frag} {F : Fx} {δ : Se} {ta tb tc te : TE} {P : PyData → Prop} {i : Nat} {d : PyData} {t : TA} {G : List PyData → (PyData → Prop) → Prop}
theorem v_go (h : EA K F δ t fun ds => G ds P) : EV K F δ (tGo (spD K G) t) P := fun O H σ S Q q =>
  h O H σ S _ fun H1 vs ds k1 S1 t1 g => ⟨F.cur O, ds, P, t1, g, fun H2 v d sm t2 p => q H2 v d (k1.trans (.same sm)) (S1.same sm) (S1.cur_new t2) p⟩
theorem v_draw (h0 : δ[i]? = some .src) (h : EA K F δ t fun ds => G ds P) : EV K F δ (tGo (spS K G) (tCons (tVar i) t)) P := fun O H σ S Q q => by
  obtain ⟨a, c, e, e1⟩ := S.at_ i _ h0
  refine ⟨.ref a, e1, h O H σ S _ fun H1 vs ds k1 S1 t1 g => ⟨a, c, vs, F.cur O, ds, P, rfl, S1.bs.src a c e, fun b z => ?_, t1, g, fun H2 v d R t2 p => ?_⟩⟩
  · exact ⟨fun x => S.bs.ok.off b z.1 ⟨a, c, e, .inl x⟩, fun x => S.bs.ok.off b z.1 ⟨a, c, e, .inr x⟩⟩
  · have k2 : Kp F H1 H2 := fun b o n e' => R.keep b o (fun x => n ⟨a, c, e, .inl x⟩) (fun x => n ⟨a, c, e, .inr x⟩) e'
    refine q H2 v d (k1.trans k2) (S1.kp k2 fun a' c' e' => ?_) (S1.cur_new t2) p
    rw [e] at e'
    cases e'
    exact R.src
/-- the draw of a number below n -/
theorem v_pick (h0 : δ[i]? = some .src) (h : EV K F δ te fun d => ∃ n : Int, d = .int n ∧ n.natAbs.log2 < 9000 ∧ ∀ k : Int, 0 ≤ k → (k < n ∨ k = 0) → P (.int k)) : EV K F δ (tGo spPick (tCons (tVar i) (tCons te tNil))) P := fun O H σ S Q q => by
  obtain ⟨a, c, e, e1⟩ := S.at_ i _ h0
  refine ⟨.ref a, e1, h O H σ S _ fun H1 v d k1 S1 t1 ⟨n, z, hn, hp⟩ => ?_⟩
  subst z
  cases t1
  refine ⟨a, c, n, rfl, S1.bs.src a c e, hn, fun H2 k R k0 k1' => ?_⟩
  have k2 : Kp F H1 H2 := fun b o n e' => R.keep b o (fun x => n ⟨a, c, e, .inl x⟩) (fun x => n ⟨a, c, e, .inr x⟩) e'
  refine q H2 _ _ (k1.trans k2) (S1.kp k2 fun a' c' e' => ?_) (.int k) (hp k k0 k1')
  rw [e] at e'
  cases e'
  exact R.src
theorem v_common (h : EA K F δ t fun ds => ∃ x y : Int, ds = [.int x, .int y] ∧ P (.int (Nat.gcd x.natAbs y.natAbs : Nat))) : EV K F δ (tGo spCommon t) P := fun O H σ S Q q =>
  h O H σ S _ fun H1 vs ds k1 S1 t1 ⟨x, y, e, p⟩ => by
    subst e
    obtain ⟨v, w, rfl, h1, h2⟩ := dts_two t1
    cases h1
    cases h2
    exact ⟨x, y, rfl, q H1 _ _ k1 S1 (.int _) p⟩

/-! ### lists put together; operators of more than one kind -/
def rOr (r1 r2 : R2) : R2 := fun x y H Q => r1 x y H Q ∨ r2 x y H Q
theorem op_or {X : Cx} {f : Value → Value → Sem Value} {r1 r2 : R2} (a : OpR X f r1) (b : OpR X f r2) : OpR X f (rOr r1 r2) := fun pins s σ H x y v u Q I rx ry h =>
  h.elim (a pins s σ H x y v u Q I rx ry) (b pins s σ H x y v u Q I rx ry)
theorem od_or {r1 r2 : R2} {G1 G2 : PyData → PyData → (PyData → Prop) → Prop} (a : OpD K F r1 G1) (b : OpD K F r2 G2) : OpD K F (rOr r1 r2) (fun d e P => G1 d e P ∨ G2 d e P) :=
  ⟨fun O H σ δ x y d e P Q S t1 t2 g q => g.elim (fun g => .inl (a.run O H σ δ x y d e P Q S t1 t2 g q)) fun g => .inr (b.run O H σ δ x y d e P Q S t1 t2 g q)⟩
theorem od_cat : OpD K F rCat (fun d e P => ∃ ds es, d = .list ds ∧ e = .list es ∧ ds.length + es.length ≤ 1000000 ∧ P (.list (ds ++ es))) :=
  ⟨fun O H σ δ x y d e P Q S t1 t2 ⟨ds, es, h1, h2, hl, p⟩ q => by
    subst h1 h2
    cases t1 with
    | lst s1 u1 =>
      cases t2 with
      | lst s2 u2 =>
        refine ⟨_, _, _, _, rfl, rfl, s1.2, s2.2, small_size (by rw [u1.length, u2.length]; exact hl), fun p' np => ?_⟩
        exact q _ _ _ (.new np) (S.new np) (.lst (.of (S.fresh np) upd_same) ((u1.append u2).stp ((Kp.new np).stp S.bs.ok))) p⟩
theorem Dts.flat {av : Addr → Prop} {H : Hp} {vs : List V} {ds : List PyData} (t : Dts av K H vs ds) : ∀ n : Nat, Dts av K H (List.replicate n vs).flatten (List.replicate n ds).flatten
  | 0 => .nil
  | n + 1 => by
    rw [List.replicate_succ, List.replicate_succ, List.flatten_cons, List.flatten_cons]
    exact t.append (t.flat n)
theorem od_rep : OpD K F rRep (fun d e P => ∃ ds k, d = .list ds ∧ e = .int k ∧ 0 ≤ k ∧ k ≤ 1000 ∧ ds.length ≤ 1000 ∧ P (.list (List.replicate k.toNat ds).flatten)) :=
  ⟨fun O H σ δ x y d e P Q S t1 t2 ⟨ds, k, h1, h2, k0, k1, hl, p⟩ q => by
    subst h1 h2
    cases t2
    cases t1 with
    | lst s1 u1 =>
      have m : ds.length * k.toNat ≤ 1000 * 1000 := Nat.mul_le_mul hl (by omega)
      refine ⟨_, k, _, rfl, rfl, s1.2, by omega, by omega, small_size (by rw [u1.length]; exact m), fun p' np => ?_⟩
      exact q _ _ _ (.new np) (S.new np) (.lst (.of (S.fresh np) upd_same) ((u1.flat _).stp ((Kp.new np).stp S.bs.ok))) p⟩
end
section
variable {X : Cx}
theorem op_addX : OpR X (binaryOp .Add) (rOr (rI0 fun i j => .int (i + j)) rCat) := op_or op_add op_cat
theorem op_mulX : OpR X (binaryOp .Mult) (rOr (rI MlOk fun i j => .int (i * j)) rRep) := op_or op_mulU op_rep
end
end Pg
/-! Pg6: own lists' names, == with the empty list, texts of data, what all laws draw. -/
namespace Pg
open PySem PySem.Spec PyProof.Rows L2

/-- a name that takes a list of the def's own -/
def gOwn (i : Nat) : TG := gName i
theorem ps_setO {X : Cx} {i : Nat} {x : Str} {e : Expr} {te : TE} {pos pos' : Pos} (hN : X.N.Nodup) (hi : X.N[i]? = some x) (hx : Loc X.env.scope x) (he : PE X e te)
    (hs : swapsWith e (some (.Name x pos')) pos.line X.env = pure false := by rfl) (hf : X.fn x = true ∨ X.env.scope.names.lookup x = some .local := by first | exact .inl rfl | exact .inr rfl | assumption) :
    PS X (.Assign [.Name x pos'] e pos) (tAsg te (gOwn i)) := ps_set hN hi hx he hs hf
section
variable {K : PySem.W.Frag} {F : Fx} {δ : Se} {ta tb tc te : TE} {P : Po} {i : Nat}
theorem s_ownL {t : TA} (h : EA K F δ t fun ds => ds.length ≤ 1000000 ∧ P.N (δ.set i (.own ds))) : SV K F δ (tAsg (tLst t) (gOwn i)) P := s_own h
end

/-! ### == with the empty list -/
def rEqNil : R2 := fun x y H Q => ∃ p q xs, x = .ref p ∧ y = .ref q ∧ H p = some (.lst xs) ∧ H q = some (.lst []) ∧ Q (.bl xs.isEmpty) H
theorem op_eqNil {X : Cx} (hu : X.A.units + 64 < cLine) : OpR X (compareOp .Eq) rEqNil := by
  intro pins s σ H x y v u Q I rx ry h
  obtain ⟨p, q, xs, rfl, rfl, hp, hq, k⟩ := h
  cases rx
  cases ry
  obtain ⟨i1, r1, ⟨o1, n1, e1, c1, _, d1⟩, _⟩ := I.list (.inl (.inl hp))
  obtain ⟨i2, r2, ⟨o2, n2, e2, c2, _, d2⟩, _⟩ := I.list (.inl (.inl hq))
  cases r2
  cases xs with
  | nil =>
    cases r1
    exact SeqAt.eq_listAt (e := fun _ => true) ⟨o1, e1, c1, n1, d1⟩ ⟨o2, e2, c2, n2, d2⟩ rfl (by omega) (fun j h1 _ => absurd h1 (Nat.not_lt_zero j)) ⟨.bl true, H, I, rfl, k⟩
  | cons x xs =>
    cases r1 with
    | cons a b => exact SeqAt.eq_list_lengthsAt ⟨o1, e1, c1, n1, d1⟩ ⟨o2, e2, c2, n2, d2⟩ (by simp) (by omega) ⟨.bl false, H, I, rfl, k⟩
theorem od_eqNil {K : PySem.W.Frag} {F : Fx} : OpD K F rEqNil (fun d e P => ∃ ds, d = .list ds ∧ e = .list [] ∧ P (.bool ds.isEmpty)) :=
  ⟨fun O H σ δ x y d e P Q S t1 t2 ⟨ds, h1, h2, p⟩ q => by
    subst h1 h2
    cases t1 with
    | lst s1 u1 =>
      cases t2 with
      | lst s2 u2 =>
        cases u2
        refine ⟨_, _, _, rfl, rfl, s1.2, s2.2, ?_⟩
        have e : ∀ {av : Addr → Prop} {vs : List V} {ds : List PyData}, Dts av K H vs ds → vs.isEmpty = ds.isEmpty := by
          intro av vs ds z
          cases z <;> rfl
        rw [e u1]
        exact q H _ _ .refl S (.bl _) p⟩
/-- texts -/
theorem od_eqStr {K : PySem.W.Frag} {F : Fx} : OpD K F rEq (fun d e P => ∃ x y : Str, d = .str x ∧ e = .str y ∧ P (.bool (decide (x = y)))) :=
  ⟨fun O H σ δ x y d e P Q S t1 t2 ⟨z, w, h1, h2, p⟩ q => by
    subst h1 h2
    cases t1
    cases t2
    have e : decide (V.str z = V.str w) = decide (z = w) := by
      by_cases h : z = w
      · rw [h, decide_eq_true rfl, decide_eq_true rfl]
      · rw [decide_eq_false h, decide_eq_false fun z => h (V.str.inj z)]
    exact ⟨rfl, by rw [e]; exact q H _ _ .refl S (.bl _) p⟩⟩
theorem od_neStr {K : PySem.W.Frag} {F : Fx} : OpD K F rNe (fun d e P => ∃ x y : Str, d = .str x ∧ e = .str y ∧ P (.bool (!decide (x = y)))) :=
  ⟨fun O H σ δ x y d e P Q S t1 t2 ⟨z, w, h1, h2, p⟩ q => by
    subst h1 h2
    cases t1
    cases t2
    have e : decide (V.str z = V.str w) = decide (z = w) := by
      by_cases h : z = w
      · rw [h, decide_eq_true rfl, decide_eq_true rfl]
      · rw [decide_eq_false h, decide_eq_false fun z => h (V.str.inj z)]
    exact ⟨rfl, by rw [e]; exact q H _ _ .refl S (.bl _) p⟩⟩
theorem op_eqX {X : Cx} (hu : X.A.units + 64 < cLine) : OpR X (compareOp .Eq) (rOr (rEqT X.K) (rOr rEqNil rEq)) := op_or (op_eqT hu) (op_or (op_eqNil hu) op_eq)
theorem op_neX {X : Cx} (hu : X.A.units + 64 < cLine) : OpR X (compareOp .NotEq) (rOr (rNeT X.K) rNe) := op_or (op_neT hu) op_ne
/-! ### comprehensions item by item -/
section
variable {K : PySem.W.Frag} {F : Fx} {δ : Se} {te : TE} {i : Nat} {wi : TI} {tt : TT} {vs : List Nat} {G : (List PyData → Prop) → Prop} {PD : PyData → Prop}
theorem v_filter (w : WiD K F δ wi G) (hi : i ∈ vs) (p : PyData → Bool) (f : PyData → PyData) (h : G fun ds => ds.length ≤ 1000000 ∧
      (∀ x, x ∈ ds → BV K F ((wipeS δ vs).set i (.dat x)) tt fun b => b = p x) ∧ (∀ x, x ∈ ds → p x = true → EV K F ((wipeS δ vs).set i (.dat x)) te fun y => y = f x) ∧ PD (.list ((ds.filter p).map f))) :
    EV K F δ (tLc wi (gName i) tt te vs) PD := by
  refine v_lc w (gw_name hi) (w.mono _ _ (fun ds z => ?_) h)
  obtain ⟨hl, ht, he, hp⟩ := z
  refine ⟨fun k acc => acc = ((ds.take k).filter p).map f, rfl, fun k x acc hx ea => ?_, fun acc ea => ?_⟩
  · have mem : x ∈ ds := List.mem_of_getElem? hx
    have hk : k < ds.length := (List.getElem?_eq_some_iff.mp hx).1
    have ek : (ds.take (k + 1)) = ds.take k ++ [x] := by
      rw [List.take_add_one, hx]
      rfl
    refine g_name ((ht x mem).mono fun b eb => ⟨fun e1 => ?_, fun e1 => ?_⟩)
    · have px : p x = true := by rw [← eb]; exact e1
      refine (he x mem px).mono fun y ey => ⟨?_, ?_⟩
      · rw [ea, List.length_map]
        have := List.length_filter_le p (ds.take k)
        have := List.length_take_le k ds
        omega
      · show acc ++ [y] = ((ds.take (k + 1)).filter p).map f
        rw [ea, ek, List.filter_append, List.map_append, ey]
        congr 1
        simp [px]
    · have px : p x = false := by rw [← eb]; exact e1
      show acc = ((ds.take (k + 1)).filter p).map f
      rw [ea, ek, List.filter_append, List.map_append]
      simp [px]
  · have ea : acc = ((ds.take ds.length).filter p).map f := ea
    rw [ea, List.take_length]
    exact hp
theorem v_map (w : WiD K F δ wi G) (hi : i ∈ vs) (f : PyData → PyData) (h : G fun ds => ds.length ≤ 1000000 ∧
      (∀ x, x ∈ ds → EV K F ((wipeS δ vs).set i (.dat x)) te fun y => y = f x) ∧ PD (.list (ds.map f))) : EV K F δ (tLc wi (gName i) tYes te vs) PD := by
  refine v_filter w hi (fun _ => true) f (w.mono _ _ (fun ds z => ?_) h)
  obtain ⟨hl, he, hp⟩ := z
  refine ⟨hl, fun x _ => b_yes rfl, fun x m _ => he x m, ?_⟩
  rw [List.filter_eq_self.mpr fun _ _ => rfl]
  exact hp
end

/-! ### numbers, rows of numbers -/
def isNum (d : PyData) : Bool := isI d && !isB d
def isRow (d : PyData) (n : Int) : Bool := match d with
  | .tuple xs => decide ((xs.length : Int) = n) && xs.all isNum
  | _ => false
def gIsNum (ds : List PyData) (P : PyData → Prop) : Prop := ∃ d, ds = [d] ∧ P (.bool (isNum d))
def gIsRow (ds : List PyData) (P : PyData → Prop) : Prop := ∃ d n, ds = [d, .int n] ∧ (∀ xs, d = .tuple xs → xs.length ≤ 1000) ∧ P (.bool (isRow d n))
theorem isT_tup {d : PyData} (h : isT d = true) : ∃ xs, d = .tuple xs := by
  cases d with
  | tuple xs => exact ⟨xs, rfl⟩
  | _ => cases h
theorem isNum_int {d : PyData} (h : isNum d = true) : ∃ i, d = .int i := by
  cases d with
  | int i => exact ⟨i, rfl⟩
  | bool b => cases h
  | _ => cases h
theorem nums_ints : ∀ {xs : List PyData}, xs.all isNum = true → ∃ ns : List Int, xs = ns.map .int
  | [], _ => ⟨[], rfl⟩
  | x :: xs, h => by
    rw [List.all_cons, Bool.and_eq_true] at h
    obtain ⟨i, rfl⟩ := isNum_int h.1
    obtain ⟨ns, rfl⟩ := nums_ints h.2
    exact ⟨i :: ns, rfl⟩
theorem isRow_ints {d : PyData} {n : Int} (h : isRow d n = true) : ∃ ns : List Int, d = .tuple (ns.map .int) ∧ (ns.length : Int) = n := by
  cases d with
  | tuple xs =>
    have h : (decide ((xs.length : Int) = n) && xs.all isNum) = true := h
    rw [Bool.and_eq_true] at h
    obtain ⟨ns, rfl⟩ := nums_ints h.2
    exact ⟨ns, rfl, by have := of_decide_eq_true h.1; simpa using this⟩
  | _ => cases h

/-! ### texts of data: sizes -/
mutual
def nodes : PyData → Nat
  | .list xs => 1 + nodesAll xs
  | .tuple xs => 1 + nodesAll xs
  | .dict kvs => 1 + nodesKv kvs
  | _ => 1
def nodesAll : List PyData → Nat
  | [] => 0
  | x :: xs => nodes x + nodesAll xs
def nodesKv : List (PyData × PyData) → Nat
  | [] => 0
  | (k, v) :: r => nodes k + nodes v + nodesKv r
end
mutual
/-- each int below 10 ^ 500, each text short -/
def leafy : PyData → Prop
  | .int i => i.natAbs < 10 ^ 500
  | .str x => (reprText x).length ≤ 1000
  | .list xs => leafyAll xs
  | .tuple xs => leafyAll xs
  | .dict kvs => leafyKv kvs
  | _ => True
def leafyAll : List PyData → Prop
  | [] => True
  | x :: xs => leafy x ∧ leafyAll xs
def leafyKv : List (PyData × PyData) → Prop
  | [] => True
  | (k, v) :: r => leafy k ∧ leafy v ∧ leafyKv r
end
theorem log2_500 {i : Int} (h : i.natAbs < 10 ^ 500) : i.natAbs.log2 < 1920 := by
  refine PySem.Flt.log2_lt_of (by decide) (Nat.lt_of_lt_of_le h ?_)
  decide +kernel
mutual
theorem leafy_show : ∀ {d : PyData}, leafy d → d.showable = true ∧ d.shown.length + 5 ≤ 1010 * nodes d
  | .none, _ => ⟨rfl, by show 4 + 5 ≤ 1010 * 1; decide⟩
  | .bool b, _ => ⟨rfl, by cases b <;> decide⟩
  | .int i, h => ⟨decide_eq_true (log2_500 h), by
      have := int_text_length_le10 (a := i) (k := 500) (by decide) h
      show (Str.ofString (toString i)).length + 5 ≤ 1010 * 1
      rw [PySem.ofString_length]
      omega⟩
  | .str x, h => ⟨rfl, by
      show (reprText x).length + 5 ≤ 1010 * 1
      have : (reprText x).length ≤ 1000 := h
      omega⟩
  | .list xs, h => by
    obtain ⟨h1, h2⟩ := leafy_all (xs := xs) h
    refine ⟨h1, ?_⟩
    have := listText_len_le (PyData.shownAll xs)
    show (listText (PyData.shownAll xs)).length + 5 ≤ 1010 * (1 + nodesAll xs)
    omega
  | .tuple xs, h => by
    obtain ⟨h1, h2⟩ := leafy_all (xs := xs) h
    refine ⟨h1, ?_⟩
    have := tupleText_len_le (PyData.shownAll xs)
    show (tupleText (PyData.shownAll xs)).length + 5 ≤ 1010 * (1 + nodesAll xs)
    omega
  | .dict kvs, h => by
    obtain ⟨h1, h2⟩ := leafy_kv (kvs := kvs) h
    refine ⟨h1, ?_⟩
    have := dictText_len_le (PyData.shownKv kvs)
    show (dictText (PyData.shownKv kvs)).length + 5 ≤ 1010 * (1 + nodesKv kvs)
    omega
theorem leafy_all : ∀ {xs : List PyData}, leafyAll xs → PyData.showableAll xs = true ∧ ((PyData.shownAll xs).map (·.length)).sum + 2 * (PyData.shownAll xs).length ≤ 1010 * nodesAll xs
  | [], _ => ⟨rfl, Nat.le_refl _⟩
  | x :: xs, h => by
    obtain ⟨a1, a2⟩ := leafy_show (d := x) h.1
    obtain ⟨b1, b2⟩ := leafy_all (xs := xs) h.2
    refine ⟨Bool.and_eq_true_iff.mpr ⟨a1, b1⟩, ?_⟩
    simp only [PyData.shownAll, List.map_cons, List.sum_cons, List.length_cons, nodesAll]
    omega
theorem leafy_kv : ∀ {kvs : List (PyData × PyData)}, leafyKv kvs → PyData.showableKv kvs = true ∧ ((PyData.shownKv kvs).map (·.length)).sum + 2 * (PyData.shownKv kvs).length ≤ 1010 * nodesKv kvs
  | [], _ => ⟨rfl, Nat.le_refl _⟩
  | (k, v) :: r, h => by
    obtain ⟨a1, a2⟩ := leafy_show (d := k) h.1
    obtain ⟨b1, b2⟩ := leafy_show (d := v) h.2.1
    obtain ⟨c1, c2⟩ := leafy_kv (kvs := r) h.2.2
    refine ⟨Bool.and_eq_true_iff.mpr ⟨Bool.and_eq_true_iff.mpr ⟨a1, b1⟩, c1⟩, ?_⟩
    simp only [PyData.shownKv, List.map_cons, List.sum_cons, List.length_cons, nodesKv]
    rw [strLen_append, strLen_append]
    have : (": " : Str).length = 2 := rfl
    omega
end
theorem shw_of {d : PyData} (h : leafy d) (n : nodes d ≤ 16000) (dp : d.depth ≤ 60) (sys : d.hasDict = true → noLst d = true) : Shw d := by
  obtain ⟨h1, h2⟩ := leafy_show h
  have e := sizeLine_eq
  exact ⟨h1, sys, dp, by rw [e]; omega⟩
theorem shw_nd {d : PyData} (h : leafy d) (n : nodes d ≤ 16000) (dp : d.depth ≤ 60) (nd : d.hasDict = false) : Shw d := shw_of h n dp fun z => by rw [nd] at z; cases z
end Pg
namespace Pg
open PySem PySem.Spec PyProof.Rows L2
/-- a law's look: if it fails, the law answers at once -/
def tChk (c : TT) (t : TS) : TS := tIfS c t tNext
theorem ps_chk {X : Cx} {c : Expr} {a : List Stmt} {tc : TT} {t : TS} {pos : Pos} (hc : PT X c tc) (ha : PSs X a t) : PS X (.If c a [] pos) (tChk tc t) := ps_if hc ha pss_nil
theorem s_chk {K : PySem.W.Frag} {F : Fx} {δ : Se} {P : Po} {c : TT} {t : TS} (h : BV K F δ c fun b => b = false) (k : P.N δ) : SV K F δ (tChk c t) P :=
  s_if (h.mono fun b e => ⟨fun z => (by rw [e] at z; cases z), fun _ => s_next k⟩)
theorem same_nf {x y : Str} (h : x = y) : (!decide (x = y)) = false := by rw [decide_eq_true h]; rfl
end Pg
namespace Pg
open PySem PySem.Spec PyProof.Rows L2
/-! ### forgetting slots; loops whose turns leave nothing to the next one -/
def Le : Se → Se → Prop
  | [], [] => True
  | .no :: r, _ :: r' => Le r r'
  | x :: r, y :: r' => x = y ∧ Le r r'
  | _, _ => False
theorem Le.at : ∀ {δ0 δ : Se} {i : Nat} {s : Sl}, Le δ0 δ → δ0[i]? = some s → s = .no ∨ δ[i]? = some s
  | [], [], i, s, _, e => by simp at e
  | x :: r, y :: r', 0, s, h, e => by
    have e : x = s := Option.some.inj e
    subst e
    cases x with
    | no => exact .inl rfl
    | dat d =>
      have h : Sl.dat d = y ∧ Le r r' := h
      exact .inr (by rw [h.1]; rfl)
    | own d =>
      have h : Sl.own d = y ∧ Le r r' := h
      exact .inr (by rw [h.1]; rfl)
    | ownd d =>
      have h : Sl.ownd d = y ∧ Le r r' := h
      exact .inr (by rw [h.1]; rfl)
    | ins p0 C0 dx0 es0 =>
      have h : Sl.ins p0 C0 dx0 es0 = y ∧ Le r r' := h
      exact .inr (by rw [h.1]; rfl)
    | src =>
      have h : Sl.src = y ∧ Le r r' := h
      exact .inr (by rw [h.1]; rfl)
  | x :: r, y :: r', i + 1, s, h, e => by
    have h2 : Le r r' := by
      cases x with
      | no => exact h
      | dat d => exact h.2
      | own d => exact h.2
      | ownd d => exact h.2
      | ins p0 C0 dx0 es0 => exact h.2
      | src => exact h.2
    exact Le.at (i := i) h2 e
  | [], _ :: _, _, _, h, _ => h.elim
  | .no :: _, [], _, _, h, _ => h.elim
  | .dat _ :: _, [], _, _, h, _ => h.elim
  | .own _ :: _, [], _, _, h, _ => h.elim
  | .ownd _ :: _, [], _, _, h, _ => h.elim
  | .src :: _, [], _, _, h, _ => h.elim
theorem Le.len : ∀ {δ0 δ : Se}, Le δ0 δ → δ0.length = δ.length
  | [], [], _ => rfl
  | x :: r, y :: r', h => by
    have h2 : Le r r' := by
      cases x with
      | no => exact h
      | dat d => exact h.2
      | own d => exact h.2
      | ownd d => exact h.2
      | ins p0 C0 dx0 es0 => exact h.2
      | src => exact h.2
    exact congrArg (· + 1) h2.len
  | [], _ :: _, h => h.elim
  | .no :: _, [], h => h.elim
  | .dat _ :: _, [], h => h.elim
  | .own _ :: _, [], h => h.elim
  | .ownd _ :: _, [], h => h.elim
  | .src :: _, [], h => h.elim
section
variable {K : PySem.W.Frag} {F : Fx} {O : Ow} {H : Hp} {σ : L2.St} {δ δ0 : Se} {P : Po}
theorem Sts.weak (S : Sts K F O H σ δ) (l : Le δ0 δ) : Sts K F O H σ δ0 := ⟨S.bs, S.ow, S.len.trans l.len.symm, fun i s e => by
  rcases l.at e with z | z
  · subst z
    trivial
  · exact S.at_ i s z⟩
theorem s_weak {t : TS} (l : Le δ0 δ) (h : SV K F δ0 t P) : SV K F δ t P := fun O H σ S => h O H σ (S.weak l)
/-- a for whose turns start from δ0 each -/
theorem s_forS {wi : TI} {g : TG} {tb : TS} {G : (List PyData → Prop) → Prop} (δ0 : Se) (w : WiD K F δ wi G)
    (h : G fun ds => Le δ0 δ ∧ (∀ x, x ∈ ds → GV K F δ0 g x fun δ2 => SV K F δ2 tb ⟨fun δ' => Le δ0 δ', P.R, P.N, fun δ' => Le δ0 δ'⟩) ∧ ∀ δ', Le δ0 δ' → P.N δ') :
    SV K F δ (tFor wi g tb) P := by
  refine s_for w (w.mono _ _ (fun ds z => ?_) h)
  obtain ⟨h0, turn, fin⟩ := z
  refine ⟨fun _ δ' => Le δ0 δ', h0, fun i x δ' hx l => ?_, fun δ' l => fin δ' l⟩
  exact fun O H σ v S t Q q => turn x (List.mem_of_getElem? hx) O H σ v (S.weak l) t Q q
end

/-! ### odd things: what is needed to show them -/
mutual
def leafyB : PyData → Bool
  | .int i => decide (i.natAbs < 10 ^ 500)
  | .str x => decide ((reprText x).length ≤ 1000)
  | .list xs => leafyAllB xs
  | .tuple xs => leafyAllB xs
  | .dict kvs => leafyKvB kvs
  | _ => true
def leafyAllB : List PyData → Bool
  | [] => true
  | x :: xs => leafyB x && leafyAllB xs
def leafyKvB : List (PyData × PyData) → Bool
  | [] => true
  | (k, v) :: r => leafyB k && (leafyB v && leafyKvB r)
end
mutual
theorem leafyB_ok : ∀ {d : PyData}, leafyB d = true → leafy d
  | .int i, h => by
    have h : decide (i.natAbs < 10 ^ 500) = true := h
    show i.natAbs < 10 ^ 500
    exact of_decide_eq_true h
  | .str x, h => by
    have h : decide ((reprText x).length ≤ 1000) = true := h
    show (reprText x).length ≤ 1000
    exact of_decide_eq_true h
  | .list xs, h => leafyAllB_ok (xs := xs) h
  | .tuple xs, h => leafyAllB_ok (xs := xs) h
  | .dict kvs, h => leafyKvB_ok (kvs := kvs) h
  | .none, _ => trivial
  | .bool _, _ => trivial
theorem leafyAllB_ok : ∀ {xs : List PyData}, leafyAllB xs = true → leafyAll xs
  | [], _ => trivial
  | x :: xs, h => by
    have z := Bool.and_eq_true_iff.mp h
    exact ⟨leafyB_ok z.1, leafyAllB_ok z.2⟩
theorem leafyKvB_ok : ∀ {kvs : List (PyData × PyData)}, leafyKvB kvs = true → leafyKv kvs
  | [], _ => trivial
  | (k, v) :: r, h => by
    have z := Bool.and_eq_true_iff.mp h
    have z2 := Bool.and_eq_true_iff.mp z.2
    exact ⟨leafyB_ok z.1, leafyB_ok z2.1, leafyKvB_ok z2.2⟩
end
/-- a tuple of this data has at most a thousand items -/
def shortT (d : PyData) : Prop := ∀ xs, d = .tuple xs → xs.length ≤ 1000
structure Ok1 (d : PyData) : Prop where
  leaf : leafy d
  nd : nodes d ≤ 100
  deep : d.depth ≤ 10
  sys : d.hasDict = true → noLst d = true
  short : shortT d
theorem Ok1.int {i : Int} (h : i.natAbs < 10 ^ 500) : Ok1 (.int i) := ⟨h, Nat.le_of_ble_eq_true rfl, Nat.le_of_ble_eq_true rfl, fun z => (by cases z), fun xs e => by cases e⟩
theorem Ok1.bool {b : Bool} : Ok1 (.bool b) := ⟨trivial, Nat.le_of_ble_eq_true rfl, Nat.le_of_ble_eq_true rfl, fun z => (by cases z), fun xs e => by cases e⟩
end Pg
namespace Pg
open PySem PySem.Spec PyProof.Rows L2
section
variable {K : PySem.W.Frag} {F : Fx} {O : Ow} {H : Hp} {σ : L2.St} {δ : Se} {P : Po}
/-! ### zip -/
def zipD (xs ys : List PyData) : List PyData := List.zipWith (fun a b => .tuple [a, b]) xs ys
theorem zipD_len (xs ys : List PyData) : (zipD xs ys).length = min xs.length ys.length := List.length_zipWith
theorem zipD_get {xs ys : List PyData} {i : Nat} {a b : PyData} (h1 : xs[i]? = some a) (h2 : ys[i]? = some b) : (zipD xs ys)[i]? = some (.tuple [a, b]) := by
  unfold zipD
  rw [List.getElem?_zipWith, h1, h2]
theorem w_zip {t : TA} : WiD K F δ (RZ.iZipA K t) (fun M => EA K F δ t fun ds => ∃ xs ys, (ds = [.list xs, .list ys] ∨ ds = [.tuple xs, .tuple ys]) ∧ M (zipD xs ys)) :=
  ⟨fun M M' m h => h.mono fun d ⟨xs, ys, e, z⟩ => ⟨xs, ys, e, m _ z⟩, fun O H σ M R S h k => h O H σ S _ fun H1 vs ds k1 S1 t1 ⟨xs, ys, e, m⟩ => by
    rcases e with e | e
    · subst e
      obtain ⟨v, w, rfl, h1, h2⟩ := dts_two t1
      cases h1 with
      | lst s1 u1 =>
      cases h2 with
      | lst s2 u2 =>
        refine ⟨_, _, _, _, rfl, .inl ⟨s1.sq, s2.sq, k H1 _ (zipD xs ys) k1 S1 m fun O2 H2 i st fr => ?_⟩⟩
        have q1 := s1.keep (av' := F.cur O2) (H' := H2) fun c o e => st _ o c e
        have q2 := s2.keep (av' := F.cur O2) (H' := H2) fun c o e => st _ o c e
        have t1 := u1.stp st
        have t2 := u2.stp st
        rw [zipD_len]
        refine ⟨fun hi => ?_, fun hi => ⟨_, _, q1.sq, q2.sq, by rw [t1.length, t2.length]; omega⟩⟩
        have i1 := List.getElem?_eq_getElem (show i < _ by rw [t1.length]; omega)
        have i2 := List.getElem?_eq_getElem (show i < _ by rw [t2.length]; omega)
        refine ⟨⟨_, _, _, _, q1.sq, q2.sq, i1, i2⟩, fun x H3 y => ?_⟩
        obtain ⟨T, x1, y1, rfl, nT, rfl, y2, y3⟩ := y
        obtain ⟨d, e1, t3⟩ := t1.get (y2 _ q1.sq)
        obtain ⟨e, e2, t4⟩ := t2.get (y3 _ q2.sq)
        have sm : Same H2 (upd H2 T (.tup [x1, y1])) := same_new nT
        exact ⟨sm, _, zipD_get e1 e2, .tup (.of (fr _ nT) upd_same) (Dts.stp (O := O2) (O1 := O2) (fun b o c h => ⟨c, sm _ _ h⟩) (.cons t3 (.cons t4 .nil)))⟩
    · subst e
      obtain ⟨v, w, rfl, h1, h2⟩ := dts_two t1
      cases h1 with
      | tup s1 u1 =>
      cases h2 with
      | tup s2 u2 =>
        refine ⟨_, _, _, _, rfl, .inr ⟨s1.sq, s2.sq, k H1 _ (zipD xs ys) k1 S1 m fun O2 H2 i st fr => ?_⟩⟩
        have q1 := s1.keep (av' := F.cur O2) (H' := H2) fun c o e => st _ o c e
        have q2 := s2.keep (av' := F.cur O2) (H' := H2) fun c o e => st _ o c e
        have t1 := u1.stp st
        have t2 := u2.stp st
        rw [zipD_len]
        refine ⟨fun hi => ?_, fun hi => ⟨_, _, q1.sq, q2.sq, by rw [t1.length, t2.length]; omega⟩⟩
        have i1 := List.getElem?_eq_getElem (show i < _ by rw [t1.length]; omega)
        have i2 := List.getElem?_eq_getElem (show i < _ by rw [t2.length]; omega)
        refine ⟨⟨_, _, _, _, q1.sq, q2.sq, i1, i2⟩, fun x H3 y => ?_⟩
        obtain ⟨T, x1, y1, rfl, nT, rfl, y2, y3⟩ := y
        obtain ⟨d, e1, t3⟩ := t1.get (y2 _ q1.sq)
        obtain ⟨e, e2, t4⟩ := t2.get (y3 _ q2.sq)
        have sm : Same H2 (upd H2 T (.tup [x1, y1])) := same_new nT
        exact ⟨sm, _, zipD_get e1 e2, .tup (.of (fr _ nT) upd_same) (Dts.stp (O := O2) (O1 := O2) (fun b o c h => ⟨c, sm _ _ h⟩) (.cons t3 (.cons t4 .nil)))⟩⟩

end
end Pg
namespace PgW
open PySem PySem.Calls PySem.W
end PgW
namespace Pg
open PySem PySem.Spec PyProof.Rows L2
section
variable {X : Cx}
/-- truth less truth -/
def bI (b : Bool) : Int := if b then 1 else 0
def rSubB : R2 := fun x y H Q => ∃ a b : Bool, x = .bl a ∧ y = .bl b ∧ Q (.int (bI a - bI b)) H
theorem op_subB : OpR X (binaryOp .Sub) rSubB := by
  intro pins s σ H x y v u Q I rx ry h
  obtain ⟨a, b, rfl, rfl, q⟩ := h
  cases rx
  cases ry
  refine PyProof.Rows.sub_bool (p := a) (q := b) ?_
  exact ⟨.int _, H, I.tok _, ⟨_, rfl⟩, q⟩
/-- tuples of two numbers, one less than the other -/
def rLtT (K : PySem.W.Frag) : R2 := fun x y H Q => ∃ (a b : Addr) (i j k l : Int), x = .ref a ∧ y = .ref b ∧ SqT K H a [.int i, .int j] ∧ SqT K H b [.int k, .int l] ∧ Q (.bl (decide (i < k ∨ i = k ∧ j < l))) H
theorem op_ltT (hu : X.A.units < cLine) : OpR X (compareOp .Lt) (rLtT X.K) := by
  intro pins s σ H x y v u Q I rx ry h
  obtain ⟨a, b, i, j, k, l, rfl, rfl, ha, hb, q⟩ := h
  cases rx
  cases ry
  obtain ⟨its, r1, p1, _⟩ := I.tuple ha
  obtain ⟨its2, r2, p2, _⟩ := I.tuple hb
  obtain ⟨t1, t2, rfl⟩ := Vals.int2 r1
  obtain ⟨t3, t4, rfl⟩ := Vals.int2 r2
  have R := Ob.RcOp.tuples_lt (A := X.A) (s := s) (e := fun n => if n = 0 then decide (i = k) else decide (j = l)) (r := fun n => if n = 0 then decide (i < k) else decide (j < l)) p1 p2 hu
    (fun n h1 h2 => by
      have z : ∀ x y : Int, (x == y) = decide (x = y) := fun x y => rfl
      match n, h1, h2 with
      | 0, _, _ => exact SeqAt.EqAt.int_int _ _ _ _
      | 1, _, _ => exact SeqAt.EqAt.int_int _ _ _ _
      | n + 2, h1, _ => exact absurd h1 (by simp))
    (fun n h1 h2 _ => by
      match n, h1, h2 with
      | 0, _, _ => exact Ob.RcOp.lt_int _ _ _ _
      | 1, _, _ => exact Ob.RcOp.lt_int _ _ _ _
      | n + 2, h1, _ => exact absurd h1 (by simp))
  have z : Ob.lexAt (fun n => if n = 0 then decide (i = k) else decide (j = l)) (fun n => if n = 0 then decide (i < k) else decide (j < l)) (decide (2 < 2)) 0 (min 2 2) = decide (i < k ∨ i = k ∧ j < l) := by
    show (if decide (i = k) = true then (if decide (j = l) = true then false else decide (j < l)) else decide (i < k)) = _
    by_cases e1 : i = k
    · by_cases e2 : j = l
      · subst e1 e2
        simp
      · simp [e1, e2]
    · simp [e1]
  rw [show ([Value.int i t1, Value.int j t2].toArray).size = 2 from rfl, show ([Value.int k t3, Value.int l t4].toArray).size = 2 from rfl, z] at R
  exact R X.prog X.w X.xe (EP X pins σ Q) ⟨.bl _, H, I, rfl, q⟩
theorem op_subX : OpR X (binaryOp .Sub) (rOr (rI0 fun i j => .int (i - j)) rSubB) := op_or op_sub op_subB
theorem op_ltX (hu : X.A.units + 64 < cLine) : OpR X (compareOp .Lt) (rOr (rI0 fun i j => .bl (decide (i < j))) (rLtT X.K)) := op_or op_lt (op_ltT (by omega))
theorem ix_seqK {K : PySem.W.Frag} (h : X.K = K) : IxR X (rIx K) := by
  subst h
  exact ix_seq
/-- a statement that is never reached -/
def tNo : TS := fun _ _ _ => False
theorem ps_no {st : Stmt} : PS X st tNo := ⟨fun pins s σ H D I h => h.elim⟩
end
section
variable {K : PySem.W.Frag} {F : Fx} {O : Ow} {H : Hp} {σ : L2.St} {δ : Se} {P : Po}
theorem od_subB : OpD K F rSubB (fun d e P => ∃ a b, d = .bool a ∧ e = .bool b ∧ P (.int (bI a - bI b))) :=
  ⟨fun O H σ δ x y d e P Q S t1 t2 ⟨a, b, e1, e2, p⟩ q => by
    subst e1 e2
    cases t1
    cases t2
    exact ⟨a, b, rfl, rfl, q H _ _ .refl S (.int _) p⟩⟩
theorem od_ltT : OpD K F (rLtT K) (fun d e P => ∃ i j k l : Int, d = .tuple [.int i, .int j] ∧ e = .tuple [.int k, .int l] ∧ P (.bool (decide (i < k ∨ i = k ∧ j < l)))) :=
  ⟨fun O H σ δ x y d e P Q S t1 t2 ⟨i, j, k, l, e1, e2, p⟩ q => by
    subst e1 e2
    cases t1 with
    | tup s1 u1 =>
    cases t2 with
    | tup s2 u2 =>
    obtain ⟨v, w, rfl, h1, h2⟩ := dts_two u1
    obtain ⟨v', w', rfl, h3, h4⟩ := dts_two u2
    cases h1
    cases h2
    cases h3
    cases h4
    exact ⟨_, _, i, j, k, l, rfl, rfl, s1.sq, s2.sq, q H _ _ .refl S (.bl _) p⟩⟩
/-- a comprehension item by item, whatever the target -/
theorem v_mapG {g : TG} {vs : List Nat} {wi : TI} {te : TE} {G : (List PyData → Prop) → Prop} {PD : PyData → Prop} (w : WiD K F δ wi G) (gw : GW g vs) (f : PyData → PyData) (h : G fun ds => ds.length ≤ 1000000 ∧
      (∀ x, x ∈ ds → GV K F (wipeS δ vs) g x fun δ2 => EV K F δ2 te fun y => y = f x) ∧ PD (.list (ds.map f))) : EV K F δ (tLc wi g tYes te vs) PD := by
  refine v_lc w gw (w.mono _ _ (fun ds z => ?_) h)
  obtain ⟨hl, he, hp⟩ := z
  refine ⟨fun k acc => acc = (ds.take k).map f, rfl, fun k x acc hx ea => ?_, fun acc ea => ?_⟩
  · have mem : x ∈ ds := List.mem_of_getElem? hx
    have hk : k < ds.length := (List.getElem?_eq_some_iff.mp hx).1
    have ek : (ds.take (k + 1)) = ds.take k ++ [x] := by
      rw [List.take_add_one, hx]
      rfl
    refine fun O H σ v S t Q q => he x mem O H σ v S t Q fun σ' δ' S' n => q σ' δ' S' (b_yes ⟨fun _ => n.mono fun y ey => ⟨?_, ?_⟩, fun z => Bool.noConfusion z⟩)
    · rw [ea, List.length_map]
      have := List.length_take_le k ds
      omega
    · show acc ++ [y] = (ds.take (k + 1)).map f
      rw [ea, ek, List.map_append, ey]
      rfl
  · have ea : acc = (ds.take ds.length).map f := ea
    rw [ea, List.take_length]
    exact hp
end
end Pg
set_option exponentiation.threshold 2000
namespace Pg
open PySem PySem.Spec PyProof.Rows L2
/-! ### numbers, fractions, draws -/
abbrev Sm (x : Int) : Prop := x.natAbs < 2 ^ 500
/-- the divisor that makes p / q a fraction in its form -/
def sgn (p q : Int) : Int := if q > 0 then (Nat.gcd p.natAbs q.natAbs : Nat) else - (Nat.gcd p.natAbs q.natAbs : Nat)
abbrev fr (p q : Int) : PyData := .tuple [.int p, .int q]
def frD (p q : Int) : PyData := fr (p.fdiv (sgn p q)) (q.fdiv (sgn p q))
def gFraction (ds : List PyData) (P : PyData → Prop) : Prop := ∃ p q, ds = [.int p, .int q] ∧ q ≠ 0 ∧ Sm p ∧ Sm q ∧ P (frD p q)
theorem sgn_abs {p q : Int} (hq : q ≠ 0) (sq : Sm q) : sgn p q ≠ 0 ∧ (sgn p q).natAbs < 2 ^ 500 := by
  have h1 : 0 < Nat.gcd p.natAbs q.natAbs := Nat.gcd_pos_of_pos_right _ (by omega)
  have h2 : Nat.gcd p.natAbs q.natAbs ≤ q.natAbs := Nat.le_of_dvd (by omega) (Nat.gcd_dvd_right _ _)
  have h3 : Nat.gcd p.natAbs q.natAbs < 2 ^ 500 := Nat.lt_of_le_of_lt h2 sq
  unfold sgn
  split
  · exact ⟨by omega, by simpa using h3⟩
  · exact ⟨by omega, by simpa using h3⟩
theorem sgn_div {p q : Int} (z : Int) (hq : q ≠ 0) (sp : Sm p) (sq : Sm q) : DivOk z (sgn p q) := .w 500 (sgn_abs hq sq).1 (sgn_abs hq sq).2
theorem abs_sub {x y : Int} {a : Nat} (hx : x.natAbs < 2 ^ a) (hy : y.natAbs < 2 ^ a) : (x - y).natAbs < 2 ^ (a + 1) := by
  rw [Nat.pow_succ]
  omega
def isFrac (d : PyData) : Bool := match d with
  | .tuple [.int p, .int q] => decide (0 < q) && decide (Nat.gcd p.natAbs q.natAbs = 1)
  | _ => false
def gIsFraction (ds : List PyData) (P : PyData → Prop) : Prop := ∃ d, ds = [d] ∧ shortT d ∧ P (.bool (isFrac d))
theorem isFrac_no {d : PyData} (h : isRow d 2 = false) : isFrac d = false := by
  cases e : isFrac d with
  | false => rfl
  | true =>
    unfold isFrac at e
    split at e
    · cases h
    · cases e
theorem nat_eq_one (n : Nat) : decide (n = 1) = ((n : Int) == 1) := by
  by_cases h : n = 1
  · subst h
    rfl
  · rw [decide_eq_false h]
    symm
    rw [beq_eq_false_iff_ne]
    omega
abbrev Bn (x : Int) : Prop := x.natAbs < 2 ^ 100
def gPlus (ds : List PyData) (P : PyData → Prop) : Prop := ∃ p q r t, ds = [fr p q, fr r t] ∧ q ≠ 0 ∧ t ≠ 0 ∧ Bn p ∧ Bn q ∧ Bn r ∧ Bn t ∧ P (frD (p * t + r * q) (q * t))
def gLess (ds : List PyData) (P : PyData → Prop) : Prop := ∃ p q r t, ds = [fr p q, fr r t] ∧ Bn p ∧ Bn q ∧ Bn r ∧ Bn t ∧ P (.bool (decide (p * t < r * q)))
def gChoice (ds : List PyData) (P : PyData → Prop) : Prop := ∃ xs, ds = [.list xs] ∧ 0 < xs.length ∧ xs.length ≤ 1000 ∧ ∀ x ∈ xs, P x
theorem len_log {n : Nat} (h : n ≤ 1000) : (n : Int).natAbs.log2 < 9000 := by
  have h1 : (n : Int).natAbs < 2 ^ 10 := by
    show n < 2 ^ 10
    omega
  have := PySem.Flt.log2_lt_of (by decide : 0 < 10) h1
  omega
theorem atI_range {xs : List PyData} {k : Int} (h0 : 0 ≤ k) (h1 : k < xs.length) : ∃ r, r ∈ xs ∧ atI xs k = some r := by
  obtain ⟨n, rfl⟩ : ∃ n : Nat, k = n := ⟨k.toNat, by omega⟩
  have hn : n < xs.length := by omega
  exact ⟨xs[n], List.getElem_mem hn, atI_nat (List.getElem?_eq_getElem hn)⟩
/-- a fraction's form, and what it stands for -/
theorem frD_form {p q : Int} (hq : q ≠ 0) : ∃ a b, frD p q = fr a b ∧ 0 < b ∧ Nat.gcd a.natAbs b.natAbs = 1 ∧ a.natAbs ≤ p.natAbs ∧ b.natAbs ≤ q.natAbs ∧ a * q = p * b := by
  have g0 : 0 < Nat.gcd p.natAbs q.natAbs := Nat.gcd_pos_of_pos_right _ (by omega)
  obtain ⟨x, hx⟩ := Nat.gcd_dvd_left p.natAbs q.natAbs
  obtain ⟨y, hy⟩ := Nat.gcd_dvd_right p.natAbs q.natAbs
  have hc := Nat.coprime_div_gcd_div_gcd g0
  have ex : p.natAbs / Nat.gcd p.natAbs q.natAbs = x := Nat.div_eq_of_eq_mul_right g0 hx
  have ey : q.natAbs / Nat.gcd p.natAbs q.natAbs = y := Nat.div_eq_of_eq_mul_right g0 hy
  rw [ex, ey] at hc
  generalize eg : Nat.gcd p.natAbs q.natAbs = g at *
  have lx : x ≤ p.natAbs := by
    rw [hx]
    exact Nat.le_mul_of_pos_left x g0
  have ly : y ≤ q.natAbs := by
    rw [hy]
    exact Nat.le_mul_of_pos_left y g0
  have y0 : 0 < y := by
    rcases Nat.eq_zero_or_pos y with z | z
    · rw [z, Nat.mul_zero] at hy
      omega
    · exact z
  -- the four signs
  have hpx : p = (g : Int) * x ∨ p = (g : Int) * (-x) := by
    have : (p.natAbs : Int) = (g : Int) * (x : Int) := by rw [← Int.natCast_mul, ← hx]
    rw [Int.mul_neg]
    omega
  have sq : sgn p q = if q > 0 then (g : Int) else -(g : Int) := by
    unfold sgn
    rw [eg]
  have key : ∀ a b : Int, p = sgn p q * a → q = sgn p q * b → frD p q = fr a b := fun a b h1 h2 => by
    have s0 : sgn p q ≠ 0 := by
      rw [sq]
      split <;> omega
    unfold frD
    have e1 : p.fdiv (sgn p q) = a := by
      have := Int.mul_fdiv_cancel_left a s0
      rwa [← h1] at this
    have e2 : q.fdiv (sgn p q) = b := by
      have := Int.mul_fdiv_cancel_left b s0
      rwa [← h2] at this
    rw [e1, e2]
  by_cases hpos : q > 0
  · have hqy : q = (g : Int) * y := by
      have : (q.natAbs : Int) = (g : Int) * (y : Int) := by rw [← Int.natCast_mul, ← hy]
      omega
    rw [if_pos hpos] at sq
    rcases hpx with h | h
    · exact ⟨x, y, key _ _ (by rw [sq]; exact h) (by rw [sq]; exact hqy), by omega, by simpa using hc, by omega, by omega, by rw [h, hqy, Int.mul_left_comm, Int.mul_assoc]⟩
    · exact ⟨-x, y, key _ _ (by rw [sq]; exact h) (by rw [sq]; exact hqy), by omega, by simpa using hc, by omega, by omega, by rw [h, hqy, Int.mul_left_comm, Int.mul_assoc]⟩
  · have hqy : q = (g : Int) * (-y) := by
      have : (q.natAbs : Int) = (g : Int) * (y : Int) := by rw [← Int.natCast_mul, ← hy]
      rw [Int.mul_neg]
      omega
    rw [if_neg hpos] at sq
    rcases hpx with h | h
    · refine ⟨-x, y, key _ _ ?_ ?_, by omega, by simpa using hc, by omega, by omega, ?_⟩
      · rw [sq, Int.neg_mul_neg]
        exact h
      · rw [sq, Int.neg_mul, ← Int.mul_neg]
        exact hqy
      · rw [h, hqy, Int.mul_left_comm, Int.neg_mul_neg, Int.mul_assoc]
    · refine ⟨x, y, key _ _ ?_ ?_, by omega, by simpa using hc, by omega, by omega, ?_⟩
      · rw [sq, Int.neg_mul, ← Int.mul_neg]
        exact h
      · rw [sq, Int.neg_mul, ← Int.mul_neg]
        exact hqy
      · rw [h, hqy, Int.mul_left_comm, Int.mul_assoc, Int.mul_neg, Int.neg_mul]
/-- the one form -/
theorem frD_uniq {p q a b : Int} (hq : q ≠ 0) (hb : 0 < b) (hc : Nat.gcd a.natAbs b.natAbs = 1) (h : a * q = p * b) : frD p q = fr a b := by
  obtain ⟨x, y, e, hy, hc2, _, _, h2⟩ := frD_form (p := p) hq
  have k : a * y = x * b := by
    have k1 : q * (a * y) = q * (x * b) := by
      rw [← Int.mul_assoc, Int.mul_comm q a, h, ← Int.mul_assoc, Int.mul_comm q x, h2, Int.mul_assoc, Int.mul_comm b y, Int.mul_assoc]
    exact Int.eq_of_mul_eq_mul_left hq k1
  have kn : a.natAbs * y.natAbs = x.natAbs * b.natAbs := by
    rw [← Int.natAbs_mul, ← Int.natAbs_mul, k]
  have d1 : b.natAbs ∣ y.natAbs := Nat.Coprime.dvd_of_dvd_mul_left (show Nat.Coprime b.natAbs a.natAbs from Nat.Coprime.symm hc) ⟨x.natAbs, by rw [kn, Nat.mul_comm]⟩
  have d2 : y.natAbs ∣ b.natAbs := Nat.Coprime.dvd_of_dvd_mul_left (show Nat.Coprime y.natAbs x.natAbs from Nat.Coprime.symm hc2) ⟨a.natAbs, by rw [← kn, Nat.mul_comm]⟩
  have eb : b = y := by
    have := Nat.dvd_antisymm d1 d2
    omega
  subst eb
  have ea : a = x := Int.eq_of_mul_eq_mul_right (by omega) k
  rw [e, ea]
/-! ### forms of two and three numbers -/
theorem frD_cong {p q p' q' : Int} (hq : q ≠ 0) (hq' : q' ≠ 0) (h : p * q' = p' * q) : frD p q = frD p' q' := by
  obtain ⟨a, b, e, hb, hc, _, _, hab⟩ := frD_form (p := p') hq'
  rw [e]
  refine frD_uniq hq hb hc (Int.eq_of_mul_eq_mul_right hq' ?_)
  calc a * q * q' = a * q' * q := by grind
    _ = p' * b * q := by rw [hab]
    _ = p' * q * b := by grind
    _ = p * q' * b := by rw [h]
    _ = p * b * q' := by grind
/-- the greatest divisor of three -/
def g3 (x y z : Int) : Nat := Nat.gcd (Nat.gcd x.natAbs y.natAbs) z.natAbs
theorem g3_mul (m x y z : Int) : g3 (m * x) (m * y) (m * z) = m.natAbs * g3 x y z := by
  unfold g3
  rw [Int.natAbs_mul, Int.natAbs_mul, Int.natAbs_mul, Nat.gcd_mul_left, Nat.gcd_mul_left]
theorem g3_dvd (x y z : Int) : (g3 x y z : Int) ∣ x ∧ (g3 x y z : Int) ∣ y ∧ (g3 x y z : Int) ∣ z := by
  unfold g3
  refine ⟨Int.natAbs_dvd_natAbs.mp ?_, Int.natAbs_dvd_natAbs.mp ?_, Int.natAbs_dvd_natAbs.mp ?_⟩ <;> rw [Int.natAbs_natCast]
  · exact Nat.dvd_trans (Nat.gcd_dvd_left _ _) (Nat.gcd_dvd_left _ _)
  · exact Nat.dvd_trans (Nat.gcd_dvd_left _ _) (Nat.gcd_dvd_right _ _)
  · exact Nat.gcd_dvd_right _ _
theorem g3_pos {x y z : Int} (h : x ≠ 0 ∨ y ≠ 0 ∨ z ≠ 0) : 0 < g3 x y z := by
  rcases Nat.eq_zero_or_pos (g3 x y z) with e | e
  · exfalso
    obtain ⟨h1, h2, h3⟩ := g3_dvd x y z
    rw [e] at h1 h2 h3
    have e1 := Int.zero_dvd.mp h1
    have e2 := Int.zero_dvd.mp h2
    have e3 := Int.zero_dvd.mp h3
    omega
  · exact e
theorem g3_unit {m X Y Z : Int} (hm : m ≠ 0) (h : g3 (m * X) (m * Y) (m * Z) = m.natAbs) : g3 X Y Z = 1 := by
  rw [g3_mul] at h
  have : 0 < m.natAbs := Int.natAbs_pos.mpr hm
  exact Nat.eq_of_mul_eq_mul_left this (by omega)
/-- two rows of three without a common divisor that go the same way -/
theorem g3_same {m n X Y Z X' Y' Z' : Int} (hm : 0 < m) (hn : 0 < n) (h1 : g3 X Y Z = 1) (h2 : g3 X' Y' Z' = 1) (e1 : m * X = n * X') (e2 : m * Y = n * Y') (e3 : m * Z = n * Z') : X = X' ∧ Y = Y' ∧ Z = Z' := by
  have g1 := g3_mul m X Y Z
  have g2 := g3_mul n X' Y' Z'
  rw [e1, e2, e3, g2, h1, h2] at g1
  have e : m = n := by omega
  subst e
  exact ⟨Int.eq_of_mul_eq_mul_left (by omega) e1, Int.eq_of_mul_eq_mul_left (by omega) e2, Int.eq_of_mul_eq_mul_left (by omega) e3⟩
theorem dvd_fdiv {s x : Int} (hs : s ≠ 0) (h : s ∣ x) : x = s * x.fdiv s := by
  obtain ⟨k, rfl⟩ := h
  rw [Int.mul_fdiv_cancel_left k hs]
theorem abs_le_mul {s X : Int} (hs : s ≠ 0) : X.natAbs ≤ (s * X).natAbs := by
  rw [Int.natAbs_mul]
  exact Nat.le_mul_of_pos_left _ (Int.natAbs_pos.mpr hs)
/-! ### places -/
abbrev pl (x y d : Int) : PyData := .tuple [.int x, .int y, .int d]
def sg3 (x y d : Int) : Int := if d > 0 then (g3 x y d : Nat) else - (g3 x y d : Nat)
def plD (x y d : Int) : PyData := pl (x.fdiv (sg3 x y d)) (y.fdiv (sg3 x y d)) (d.fdiv (sg3 x y d))
/-- a place in its form -/
structure Pl (X Y D : Int) : Prop where
  pos : 0 < D
  one : g3 X Y D = 1
theorem sg3_ne {x y d : Int} (hd : d ≠ 0) : sg3 x y d ≠ 0 := by
  have := g3_pos (x := x) (y := y) (z := d) (.inr (.inr hd))
  unfold sg3
  split <;> omega
theorem sg3_abs (x y d : Int) : (sg3 x y d).natAbs = g3 x y d := by
  unfold sg3
  split <;> omega
theorem sg3_dvd (x y d : Int) : sg3 x y d ∣ x ∧ sg3 x y d ∣ y ∧ sg3 x y d ∣ d := by
  obtain ⟨h1, h2, h3⟩ := g3_dvd x y d
  unfold sg3
  split
  · exact ⟨h1, h2, h3⟩
  · exact ⟨Int.neg_dvd.mpr h1, Int.neg_dvd.mpr h2, Int.neg_dvd.mpr h3⟩
theorem plD_form {x y d : Int} (hd : d ≠ 0) : ∃ X Y D k, plD x y d = pl X Y D ∧ Pl X Y D ∧ k ≠ 0 ∧ (0 < d → 0 < k) ∧ x = k * X ∧ y = k * Y ∧ d = k * D ∧ X.natAbs ≤ x.natAbs ∧ Y.natAbs ≤ y.natAbs ∧ D.natAbs ≤ d.natAbs := by
  have hs := sg3_ne (x := x) (y := y) hd
  obtain ⟨d1, d2, d3⟩ := sg3_dvd x y d
  have e1 := dvd_fdiv hs d1
  have e2 := dvd_fdiv hs d2
  have e3 := dvd_fdiv hs d3
  have ha := sg3_abs x y d
  have hp : 0 < d → 0 < sg3 x y d := fun p => by
    have := g3_pos (x := x) (y := y) (z := d) (.inr (.inr hd))
    unfold sg3
    rw [if_pos p]
    omega
  have hn : d < 0 → sg3 x y d < 0 := fun p => by
    have := g3_pos (x := x) (y := y) (z := d) (.inr (.inr hd))
    unfold sg3
    rw [if_neg (by omega)]
    omega
  unfold plD
  generalize sg3 x y d = s at *
  generalize x.fdiv s = X at *
  generalize y.fdiv s = Y at *
  generalize d.fdiv s = D at *
  subst e1 e2 e3
  refine ⟨X, Y, D, s, rfl, ⟨?_, g3_unit hs ha.symm⟩, hs, hp, rfl, rfl, rfl, abs_le_mul hs, abs_le_mul hs, abs_le_mul hs⟩
  rcases Int.lt_trichotomy D 0 with z | z | z
  · exfalso
    rcases Int.lt_or_gt_of_ne hs with q | q
    · have := Int.mul_pos_of_neg_of_neg q z
      have := hp this
      omega
    · have := Int.mul_neg_of_pos_of_neg q z
      have := hn this
      omega
  · subst z
    exact absurd (Int.mul_zero s) hd
  · exact z
theorem Pl.uniq {X Y D X' Y' D' : Int} (a : Pl X Y D) (b : Pl X' Y' D') (h1 : X * D' = X' * D) (h2 : Y * D' = Y' * D) : X = X' ∧ Y = Y' ∧ D = D' :=
  g3_same b.pos a.pos a.one b.one (by rw [Int.mul_comm, h1, Int.mul_comm]) (by rw [Int.mul_comm, h2, Int.mul_comm]) (Int.mul_comm _ _)
/-- twice the area, times what is below -/
def det3 (x y d a b c u v w : Int) : Int := x * (b * w - c * v) - y * (a * w - c * u) + d * (a * v - b * u)
theorem neq_same {d : PyData} (h : d.plain = true) : (!PyData.eqv d d) = false := by rw [PySem.SeqAt.eqv_refl_plain d h]; rfl
theorem eqv_same {d : PyData} (h : d.plain = true) : PyData.eqv d d = true := PySem.SeqAt.eqv_refl_plain d h
end Pg
/-! Pg14: the lower border of places in order (the monotone chain), in plain Lean. -/
namespace Pg
/-! ### slopes: steps that go to the right, or straight up -/
def cr (u v : Int × Int) : Int := u.1 * v.2 - u.2 * v.1
def up (u : Int × Int) : Prop := 0 < u.1 ∨ (u.1 = 0 ∧ 0 < u.2)
theorem cr_x (u v z : Int × Int) : v.1 * cr u z = u.1 * cr v z + z.1 * cr u v := by
  unfold cr
  grind
theorem cr_y (u v z : Int × Int) : v.2 * cr u z = u.2 * cr v z + z.2 * cr u v := by
  unfold cr
  grind
theorem pos_of {a b : Int} (ha : 0 < a) (h : 0 < a * b) : 0 < b := by
  rcases Int.lt_or_le 0 b with z | z
  · exact z
  · have := Int.mul_nonpos_of_nonneg_of_nonpos (Int.le_of_lt ha) z
    omega
theorem nonneg_of {a b : Int} (ha : 0 < a) (h : 0 ≤ a * b) : 0 ≤ b := by
  rcases Int.lt_or_le b 0 with z | z
  · have := Int.mul_neg_of_pos_of_neg ha z
    omega
  · exact z
theorem cr_trans {u v z : Int × Int} (hu : up u) (hv : up v) (hz : up z) (h1 : 0 ≤ cr u v) (h2 : 0 ≤ cr v z) : 0 ≤ cr u z := by
  have i := cr_x u v z
  have u1 : 0 ≤ u.1 := by unfold up at hu; omega
  have z1 : 0 ≤ z.1 := by unfold up at hz; omega
  rcases hv with hv | ⟨hv, hv2⟩
  · refine nonneg_of hv ?_
    rw [i]
    have := Int.mul_nonneg u1 h2
    have := Int.mul_nonneg z1 h1
    omega
  · have e2 : cr v z = -(v.2 * z.1) := by
      unfold cr
      rw [hv]
      omega
    have z0 : z.1 = 0 := by
      rcases Int.lt_or_le 0 z.1 with q | q
      · have := Int.mul_pos hv2 q
        omega
      · omega
    have z2 : 0 < z.2 := by unfold up at hz; omega
    have e : cr u z = u.1 * z.2 := by
      unfold cr
      rw [z0]
      omega
    rw [e]
    exact Int.mul_nonneg u1 (Int.le_of_lt z2)
theorem cr_trans1 {u v z : Int × Int} (hu : up u) (hv : up v) (hz : up z) (h1 : 0 < cr u v) (h2 : 0 ≤ cr v z) : 0 < cr u z := by
  have i := cr_x u v z
  have u1 : 0 ≤ u.1 := by unfold up at hu; omega
  have u0 : 0 < u.1 := by
    rcases hu with hu | ⟨hu, hu2⟩
    · exact hu
    · have e : cr u v = -(u.2 * v.1) := by
        unfold cr
        rw [hu]
        omega
      have v1 : 0 ≤ v.1 := by unfold up at hv; omega
      have := Int.mul_nonneg (Int.le_of_lt hu2) v1
      omega
  rcases hz with hz | ⟨hz, hz2⟩
  · rcases hv with hv | ⟨hv, hv2⟩
    · refine pos_of hv ?_
      rw [i]
      have := Int.mul_nonneg u1 h2
      have := Int.mul_pos hz h1
      omega
    · have e2 : cr v z = -(v.2 * z.1) := by
        unfold cr
        rw [hv]
        omega
      have := Int.mul_pos hv2 hz
      omega
  · have e : cr u z = u.1 * z.2 := by
      unfold cr
      rw [hz]
      omega
    rw [e]
    exact Int.mul_pos u0 hz2
theorem cr_trans2 {u v z : Int × Int} (hu : up u) (hv : up v) (hz : up z) (h1 : 0 ≤ cr u v) (h2 : 0 < cr v z) : 0 < cr u z := by
  rcases Int.lt_or_le 0 (cr u v) with h | h
  · exact cr_trans1 hu hv hz h (Int.le_of_lt h2)
  · have h0 : cr u v = 0 := by omega
    have i := cr_x u v z
    have j := cr_y u v z
    rw [h0, Int.mul_zero, Int.add_zero] at i j
    rcases hv with hv | ⟨hv, hv2⟩
    · rcases hu with hu | ⟨hu, hu2⟩
      · refine pos_of hv ?_
        rw [i]
        exact Int.mul_pos hu h2
      · have e : cr u v = -(u.2 * v.1) := by
          unfold cr
          rw [hu]
          omega
        have := Int.mul_pos hu2 hv
        omega
    · have e2 : cr v z = -(v.2 * z.1) := by
        unfold cr
        rw [hv]
        omega
      have z1 : 0 ≤ z.1 := by unfold up at hz; omega
      have := Int.mul_nonneg (Int.le_of_lt hv2) z1
      omega
/-! ### places -/
structure Pt where
  x : Int
  y : Int
  w : Int
def dt (p q r : Pt) : Int := det3 p.x p.y p.w q.x q.y q.w r.x r.y r.w
/-- the way from p to q, times what is below -/
def wy (p q : Pt) : Int × Int := (q.x * p.w - p.x * q.w, q.y * p.w - p.y * q.w)
def lt (p q : Pt) : Prop := up (wy p q)
theorem wy_a (p q r : Pt) : cr (wy p q) (wy p r) = p.w * dt p q r := by
  unfold cr wy dt det3
  grind
theorem wy_b (p q r : Pt) : cr (wy p q) (wy q r) = q.w * dt p q r := by
  unfold cr wy dt det3
  grind
theorem wy_c (p q r : Pt) : cr (wy p r) (wy q r) = r.w * dt p q r := by
  unfold cr wy dt det3
  grind
theorem lt_trans {p q r : Pt} (hp : 0 < p.w) (hq : 0 < q.w) (hr : 0 < r.w) (h1 : lt p q) (h2 : lt q r) : lt p r := by
  unfold lt up at *
  have ex : q.w * (wy p r).1 = r.w * (wy p q).1 + p.w * (wy q r).1 := by unfold wy; grind
  have ey : q.w * (wy p r).2 = r.w * (wy p q).2 + p.w * (wy q r).2 := by unfold wy; grind
  generalize (wy p q).1 = a at *
  generalize (wy p q).2 = b at *
  generalize (wy q r).1 = c at *
  generalize (wy q r).2 = d at *
  have s : 0 < a ∨ 0 < c → 0 < (wy p r).1 := fun h => by
    refine pos_of hq ?_
    rw [ex]
    rcases h with h | h
    · have := Int.mul_pos hr h
      have := Int.mul_nonneg (Int.le_of_lt hp) (show 0 ≤ c by omega)
      omega
    · have := Int.mul_pos hp h
      have := Int.mul_nonneg (Int.le_of_lt hr) (show 0 ≤ a by omega)
      omega
  rcases h1 with h1 | ⟨h1, h1'⟩
  · exact .inl (s (.inl h1))
  · rcases h2 with h2 | ⟨h2, h2'⟩
    · exact .inl (s (.inr h2))
    · refine .inr ⟨?_, ?_⟩
      · rw [h1, h2, Int.mul_zero, Int.mul_zero] at ex
        rcases Int.mul_eq_zero.mp ex with z | z
        · omega
        · exact z
      · refine pos_of hq ?_
        rw [ey]
        have := Int.mul_pos hr h1'
        have := Int.mul_pos hp h2'
        omega
theorem dt_cyc (p q r : Pt) : dt q r p = dt p q r := by
  unfold dt det3
  grind
theorem dt_swap (p q r : Pt) : dt p r q = - dt p q r := by
  unfold dt det3
  grind
theorem dt_pp (p q : Pt) : dt p q p = 0 ∧ dt p q q = 0 := by
  unfold dt det3
  constructor <;> grind
theorem cr_anti (u v : Int × Int) : cr v u = - cr u v := by
  unfold cr
  grind
section
variable {a b c d s p : Pt}
/-- a, b, c turn left, b, c, d do: so do a, b, d -/
theorem far_left (wb : 0 < b.w) (ab : lt a b) (bc : lt b c) (bd : lt b d) (h1 : 0 < dt a b c) (h2 : 0 < dt b c d) : 0 < dt a b d := by
  have e1 := wy_b a b c
  have e2 := wy_a b c d
  have e3 := wy_b a b d
  have p1 := Int.mul_pos wb h1
  have p2 := Int.mul_pos wb h2
  refine pos_of wb ?_
  rw [← e3]
  exact cr_trans1 ab bc bd (by omega) (by omega)
/-- popping: what lies above b p lies above a p -/
theorem pop_right (ws : 0 < s.w) (wp : 0 < p.w) (ap : lt a p) (bp : lt b p) (sp : lt s p) (h1 : dt a b p ≤ 0) (h2 : 0 ≤ dt b p s) : 0 ≤ dt a p s := by
  have e1 := wy_c a b p
  have e2 := wy_c b s p
  have e3 := wy_c a s p
  have k1 := Int.mul_nonpos_of_nonneg_of_nonpos (Int.le_of_lt wp) h1
  have k2 := dt_swap b s p
  have k3 := Int.mul_nonneg (Int.le_of_lt wp) h2
  have k4 := dt_swap a s p
  -- slope s p <= slope b p <= slope a p
  have q1 : 0 ≤ cr (wy s p) (wy b p) := by
    rw [cr_anti (wy b p) (wy s p), e2]
    rw [k2, Int.mul_neg] at k3
    omega
  have q2 : 0 ≤ cr (wy b p) (wy a p) := by
    rw [cr_anti (wy a p) (wy b p), e1]
    omega
  have q3 := cr_trans sp bp ap q1 q2
  rw [cr_anti (wy a p) (wy s p), e3] at q3
  rw [k4]
  have : 0 ≤ p.w * -(dt a s p) := by rw [Int.mul_neg]; exact q3
  exact nonneg_of wp this
theorem pop_left (wa : 0 < a.w) (ab : lt a b) (ap : lt a p) (as : lt a s) (h1 : dt a b p ≤ 0) (h2 : 0 ≤ dt a b s) : 0 ≤ dt a p s := by
  have e1 := wy_a a b p
  have e2 := wy_a a b s
  have e3 := wy_a a p s
  have k1 := Int.mul_nonpos_of_nonneg_of_nonpos (Int.le_of_lt wa) h1
  have k2 := Int.mul_nonneg (Int.le_of_lt wa) h2
  have q1 : 0 ≤ cr (wy a p) (wy a b) := by
    rw [cr_anti (wy a b) (wy a p), e1]
    omega
  have q2 := cr_trans ap ab as q1 (by rw [e2]; exact k2)
  rw [e3] at q2
  exact nonneg_of wa q2
/-- pushing: what lies left of b lies left of the new edge, too -/
theorem push_left (wb : 0 < b.w) (ab : lt a b) (sb : lt s b) (bp : lt b p) (h1 : 0 < dt a b p) (h2 : 0 ≤ dt a b s) : 0 ≤ dt b p s := by
  have e1 := wy_c s a b
  have e2 := wy_b a b p
  have e3 := wy_b s b p
  have k1 := Int.mul_nonneg (Int.le_of_lt wb) h2
  have k2 := Int.mul_pos wb h1
  have q1 : 0 ≤ cr (wy s b) (wy a b) := by
    rw [e1, ← dt_cyc s a b]
    exact k1
  have q2 := cr_trans sb ab bp q1 (by rw [e2]; omega)
  rw [e3, ← dt_cyc s b p] at q2
  exact nonneg_of wb q2
end
/-! ### the chain -/
def popW (p : Pt) : List Pt → List Pt
  | b :: a :: r => if dt a b p ≤ 0 then popW p (a :: r) else b :: a :: r
  | l => l
def Edges (done : List Pt) : List Pt → Prop
  | b :: a :: r => (∀ s ∈ done, 0 ≤ dt a b s) ∧ Edges done (a :: r)
  | _ => True
def Turns : List Pt → Prop
  | c :: b :: a :: r => 0 < dt a b c ∧ Turns (b :: a :: r)
  | _ => True
/-- a stack (the top first) over what is done -/
structure Ch (st done : List Pt) : Prop where
  w : ∀ s ∈ done, 0 < s.w
  cmp : ∀ s ∈ done, ∀ t ∈ done, s = t ∨ lt s t ∨ lt t s
  sub : ∀ s ∈ st, s ∈ done
  srt : st.Pairwise fun x y => lt y x
  edg : Edges done st
  trn : Turns st
  bot : ∃ b, st.getLast? = some b ∧ ∀ s ∈ done, s = b ∨ lt b s
theorem lt_no {p q : Pt} (h1 : lt p q) (h2 : lt q p) : False := by
  unfold lt up wy at *
  omega
theorem Turns.tail {b : Pt} : ∀ {r : List Pt}, Turns (b :: r) → Turns r
  | [], _ => trivial
  | [_], _ => trivial
  | _ :: _ :: _, h => h.2
theorem Ch.tail {b a : Pt} {r done : List Pt} (h : Ch (b :: a :: r) done) : Ch (a :: r) done :=
  ⟨h.w, h.cmp, fun s m => h.sub s (List.mem_cons_of_mem _ m), (List.pairwise_cons.mp h.srt).2, h.edg.2, h.trn.tail, by
    obtain ⟨x, e, q⟩ := h.bot
    exact ⟨x, by rw [List.getLast?_cons_cons] at e; exact e, q⟩⟩
theorem pop_ok {p : Pt} {done : List Pt} (wp : 0 < p.w) (hl : ∀ s ∈ done, lt s p) : ∀ (r : List Pt) (b : Pt), Ch (b :: r) done → (∀ s ∈ done, s = b ∨ lt b s → 0 ≤ dt b p s) →
    ∃ b' r', popW p (b :: r) = b' :: r' ∧ Ch (b' :: r') done ∧ (∀ s ∈ done, s = b' ∨ lt b' s → 0 ≤ dt b' p s) ∧ ∀ a r2, r' = a :: r2 → 0 < dt a b' p
  | [], b, C, h => ⟨b, [], rfl, C, h, fun a r2 e => by cases e⟩
  | a :: r, b, C, h => by
    have mb := C.sub b List.mem_cons_self
    have ma := C.sub a (List.mem_cons_of_mem _ List.mem_cons_self)
    have ab : lt a b := (List.pairwise_cons.mp C.srt).1 a List.mem_cons_self
    unfold popW
    by_cases hd : dt a b p ≤ 0
    · rw [if_pos hd]
      refine pop_ok wp hl r a C.tail fun s ms hs => ?_
      rcases C.cmp b mb s ms with e | e | e
      · subst e
        rw [dt_swap a b p]
        omega
      · exact pop_right (C.w s ms) wp (hl a ma) (hl b mb) (hl s ms) hd (h s ms (.inr e))
      · rcases hs with e2 | e2
        · subst e2
          rw [(dt_pp s p).1]
          exact Int.le_refl 0
        · exact pop_left (C.w a ma) ab (hl a ma) e2 hd (C.edg.1 s ms)
    · rw [if_neg hd]
      refine ⟨b, a :: r, rfl, C, h, fun x r2 e => ?_⟩
      cases e
      omega
/-- an edge lower down sees the new place, too -/
theorem edges_see {p : Pt} {done : List Pt} (hl : ∀ s ∈ done, lt s p) : ∀ (r : List Pt) (b : Pt), Ch (b :: r) done → (∀ a r2, r = a :: r2 → 0 < dt a b p) → Edges (p :: done) (b :: r)
  | [], b, _, _ => trivial
  | a :: r, b, C, h => by
    have hab := h a r rfl
    refine ⟨fun s ms => ?_, ?_⟩
    · rcases List.mem_cons.mp ms with e | ms
      · rw [e]
        omega
      · exact C.edg.1 s ms
    · refine edges_see hl r a C.tail fun z r2 e => ?_
      subst e
      have ma := C.sub a (List.mem_cons_of_mem _ List.mem_cons_self)
      have q := List.pairwise_cons.mp C.srt
      have q2 := List.pairwise_cons.mp q.2
      exact far_left (C.w a ma) (q2.1 z List.mem_cons_self) (q.1 a List.mem_cons_self) (hl a ma) C.trn.1 hab
theorem Ch.push {p b : Pt} {r done : List Pt} (C : Ch (b :: r) done) (wp : 0 < p.w) (hl : ∀ s ∈ done, lt s p) (ht : ∀ s ∈ done, s = b ∨ lt s b) : Ch (p :: popW p (b :: r)) (p :: done) := by
  obtain ⟨b', r', e, C', h', hd⟩ := pop_ok wp hl r b C fun s ms hs => by
    rcases hs with e | e
    · rw [e, (dt_pp b p).1]
      exact Int.le_refl 0
    · rcases ht s ms with e2 | e2
      · rw [e2, (dt_pp b p).1]
        exact Int.le_refl 0
      · exact (lt_no e e2).elim
  rw [e]
  have mb := C'.sub b' List.mem_cons_self
  refine ⟨fun s ms => ?_, fun s ms t mt => ?_, fun s ms => ?_, ?_, ⟨fun s ms => ?_, edges_see hl r' b' C' hd⟩, ?_, ?_⟩
  · rcases List.mem_cons.mp ms with e | ms
    · rw [e]; exact wp
    · exact C.w s ms
  · rcases List.mem_cons.mp ms with e1 | ms <;> rcases List.mem_cons.mp mt with e2 | mt
    · exact .inl (e1.trans e2.symm)
    · rw [e1]; exact .inr (.inr (hl t mt))
    · rw [e2]; exact .inr (.inl (hl s ms))
    · exact C.cmp s ms t mt
  · rcases List.mem_cons.mp ms with e | ms
    · rw [e]; exact List.mem_cons_self
    · exact List.mem_cons_of_mem _ (C'.sub s ms)
  · exact List.pairwise_cons.mpr ⟨fun s ms => hl s (C'.sub s ms), C'.srt⟩
  · rcases List.mem_cons.mp ms with e | ms
    · rw [e, (dt_pp b' p).2]
      exact Int.le_refl 0
    · rcases C'.cmp s ms b' mb with e0 | e0 | e0
      · exact h' s ms (.inl e0)
      · cases r' with
        | nil =>
          obtain ⟨x, ex, q⟩ := C'.bot
          cases ex
          rcases q s ms with e2 | e2
          · exact h' s ms (.inl e2)
          · exact (lt_no e0 e2).elim
        | cons a r2 =>
          exact push_left (C'.w b' mb) ((List.pairwise_cons.mp C'.srt).1 a List.mem_cons_self) e0 (hl b' mb) (hd a r2 rfl) (C'.edg.1 s ms)
      · exact h' s ms (.inr e0)
  · cases r' with
    | nil => trivial
    | cons a r2 => exact ⟨hd a r2 rfl, C'.trn⟩
  · obtain ⟨x, ex, q⟩ := C'.bot
    refine ⟨x, by rw [List.getLast?_cons_cons]; exact ex, fun s ms => ?_⟩
    rcases List.mem_cons.mp ms with e | ms
    · have mx : x ∈ done := C'.sub x (List.mem_of_getLast? ex)
      rw [e]
      exact .inr (hl x mx)
    · exact q s ms
/-- the chain of places in order: the stack behind all of them -/
def chainS : List Pt → List Pt → List Pt
  | st, [] => st
  | st, p :: ps => chainS (p :: popW p st) ps
theorem chain_ok : ∀ (ps : List Pt) (b : Pt) (r done : List Pt), Ch (b :: r) done → (∀ s ∈ done, s = b ∨ lt s b) → b ∈ done → (∀ p ∈ ps, 0 < p.w) → ps.Pairwise lt → (∀ s ∈ done, ∀ p ∈ ps, lt s p) →
    ∃ b' r', chainS (b :: r) ps = b' :: r' ∧ Ch (b' :: r') (ps.reverse ++ done) ∧ ∀ s ∈ ps.reverse ++ done, s = b' ∨ lt s b'
  | [], b, r, done, C, ht, _, _, _, _ => ⟨b, r, rfl, C, ht⟩
  | p :: ps, b, r, done, C, ht, mb, hw, hs, hl => by
    obtain ⟨s1, s2⟩ := List.pairwise_cons.mp hs
    have C2 := C.push (hw p List.mem_cons_self) (fun s ms => hl s ms p List.mem_cons_self) ht
    obtain ⟨b', r', e, C', h'⟩ := chain_ok ps p (popW p (b :: r)) (p :: done) C2 (fun s ms => by
      rcases List.mem_cons.mp ms with e | ms
      · exact .inl e
      · exact .inr (hl s ms p List.mem_cons_self)) List.mem_cons_self (fun q m => hw q (List.mem_cons_of_mem _ m)) s2 (fun s ms q mq => by
      rcases List.mem_cons.mp ms with e | ms
      · rw [e]
        exact s1 q mq
      · exact hl s ms q (List.mem_cons_of_mem _ mq))
    refine ⟨b', r', e, ?_, ?_⟩
    · rw [List.reverse_cons, List.append_assoc]
      exact C'
    · rw [List.reverse_cons, List.append_assoc]
      exact h'
end Pg
/-! Pg15: hulls: both chains of places in order, in plain Lean. -/
namespace Pg
def prs : List Pt → List (Pt × Pt)
  | a :: b :: r => (a, b) :: prs (b :: r)
  | _ => []
theorem prs_app : ∀ (xs : List Pt) (a : Pt) (t : List Pt), prs (xs ++ a :: t) = prs (xs ++ [a]) ++ prs (a :: t)
  | [], a, t => rfl
  | [x], a, t => rfl
  | x :: y :: xs, a, t => by
    have ih := prs_app (y :: xs) a t
    show (x, y) :: prs (y :: xs ++ a :: t) = (x, y) :: prs (y :: xs ++ [a]) ++ prs (a :: t)
    rw [ih]
    rfl
theorem edges_prs {done : List Pt} : ∀ {st : List Pt}, Edges done st → ∀ pr ∈ prs st.reverse, ∀ s ∈ done, 0 ≤ dt pr.1 pr.2 s
  | [], _, pr, m => by cases m
  | [a], _, pr, m => by cases m
  | b :: a :: r, h, pr, m => by
    rw [List.reverse_cons, List.reverse_cons, List.append_assoc] at m
    have m : pr ∈ prs (r.reverse ++ a :: [b]) := m
    rw [prs_app] at m
    rcases List.mem_append.mp m with m | m
    · refine edges_prs h.2 pr ?_
      rw [List.reverse_cons]
      exact m
    · have m : pr ∈ [(a, b)] := m
      rw [List.mem_singleton] at m
      subst m
      exact h.1
/-! ### the other way round -/
def ng (p : Pt) : Pt := ⟨-p.x, -p.y, p.w⟩
theorem ng_ng (p : Pt) : ng (ng p) = p := by
  unfold ng
  simp
theorem dt_ng (p q r : Pt) : dt (ng p) (ng q) (ng r) = dt p q r := by
  unfold dt det3 ng
  grind
theorem lt_ng {p q : Pt} : lt (ng p) (ng q) ↔ lt q p := by
  unfold lt up wy ng
  simp only [Int.neg_mul]
  omega
theorem popW_ng (p : Pt) : ∀ st : List Pt, popW (ng p) (st.map ng) = (popW p st).map ng
  | [] => rfl
  | [a] => rfl
  | b :: a :: r => by
    show (if dt (ng a) (ng b) (ng p) ≤ 0 then popW (ng p) ((a :: r).map ng) else (b :: a :: r).map ng) = (if dt a b p ≤ 0 then popW p (a :: r) else b :: a :: r).map ng
    rw [dt_ng, popW_ng p (a :: r)]
    split <;> rfl
theorem chainS_ng : ∀ (ps st : List Pt), chainS (st.map ng) (ps.map ng) = (chainS st ps).map ng
  | [], st => rfl
  | p :: ps, st => by
    show chainS (ng p :: popW (ng p) (st.map ng)) (ps.map ng) = (chainS (p :: popW p st) ps).map ng
    rw [popW_ng]
    exact chainS_ng ps (p :: popW p st)
/-! ### the hull of places in order -/
structure Asc (S : List Pt) : Prop where
  w : ∀ s ∈ S, 0 < s.w
  srt : S.Pairwise lt
/-- the chain's stack: its top is the last place, its bottom the first one; all lies left of its edges -/
theorem stack_ok {S : List Pt} (A : Asc S) {f : Pt} {ps : List Pt} (e : S = f :: ps) : ∃ b r, chainS [] S = b :: r ∧ (∀ s ∈ b :: r, s ∈ S) ∧ (b :: r).getLast? = some f ∧ S.getLast? = some b ∧
    ∀ pr ∈ prs (b :: r).reverse, ∀ s ∈ S, 0 ≤ dt pr.1 pr.2 s := by
  subst e
  obtain ⟨s1, s2⟩ := List.pairwise_cons.mp A.srt
  have C0 : Ch [f] [f] := ⟨fun s m => A.w s (by rw [List.mem_singleton.mp m]; exact List.mem_cons_self), fun s m t n => .inl ((List.mem_singleton.mp m).trans (List.mem_singleton.mp n).symm), fun s m => m,
    List.pairwise_singleton _ _, trivial, trivial, ⟨f, rfl, fun s m => .inl (List.mem_singleton.mp m)⟩⟩
  obtain ⟨b, r, e, C, h⟩ := chain_ok ps f [] [f] C0 (fun s m => .inl (List.mem_singleton.mp m)) List.mem_cons_self (fun p m => A.w p (List.mem_cons_of_mem _ m)) s2 (fun s m p mp => by
    rw [List.mem_singleton.mp m]
    exact s1 p mp)
  have mem : ∀ s, s ∈ ps.reverse ++ [f] ↔ s ∈ f :: ps := fun s => by
    rw [List.mem_append, List.mem_reverse, List.mem_singleton, List.mem_cons]
    exact Or.comm
  refine ⟨b, r, e, fun s m => (mem s).mp (C.sub s m), ?_, ?_, fun pr m s ms => edges_prs C.edg pr m s ((mem s).mpr ms)⟩
  · obtain ⟨x, ex, q⟩ := C.bot
    rw [ex]
    rcases q f ((mem f).mpr List.mem_cons_self) with z | z
    · rw [z]
    · have mx : x ∈ f :: ps := (mem x).mp (C.sub x (List.mem_of_getLast? ex))
      rcases List.mem_cons.mp mx with y | y
      · rw [y]
      · exact (lt_no z (s1 x y)).elim
  · have mb : b ∈ f :: ps := (mem b).mp (C.sub b List.mem_cons_self)
    cases hl : (f :: ps).getLast? with
    | none => exact absurd (List.getLast?_eq_none_iff.mp hl) (by simp)
    | some l =>
      have ml : l ∈ f :: ps := List.mem_of_getLast? hl
      rcases h l ((mem l).mpr ml) with z | z
      · rw [z]
      · -- l is the last: nothing stands behind it
        obtain ⟨t, et⟩ := List.getLast?_eq_some_iff.mp hl
        rw [et] at mb
        have srt := A.srt
        rw [et] at srt
        rcases List.mem_append.mp mb with y | y
        · have := (List.pairwise_append.mp srt).2.2 b y l List.mem_cons_self
          exact (lt_no z this).elim
        · rw [List.mem_singleton.mp y]
def hullP (S : List Pt) : List Pt := if S.length < 2 then S else (chainS [] S).tail.reverse ++ (chainS [] S.reverse).tail.reverse
theorem asc_rev {S : List Pt} (A : Asc S) : Asc (S.reverse.map ng) := ⟨fun s m => by
    obtain ⟨t, mt, rfl⟩ := List.mem_map.mp m
    exact A.w t (List.mem_reverse.mp mt), by
    rw [List.pairwise_map, List.pairwise_reverse]
    exact A.srt.imp fun h => lt_ng.mpr h⟩
/-- the hull's sides: all places lie left of them -/
theorem hull_ok {S : List Pt} (A : Asc S) (n : 2 ≤ S.length) : (∀ s ∈ hullP S, s ∈ S) ∧ 2 ≤ (hullP S).length ∧ (∀ pr ∈ prs (hullP S ++ (hullP S).take 1), ∀ s ∈ S, 0 ≤ dt pr.1 pr.2 s) ∧
    (∀ a b, hullP S = [a, b] → lt a b) ∧ (hullP S).head? = S.head? := by
  obtain ⟨f, ps, e⟩ : ∃ f ps, S = f :: ps := by
    cases S with
    | nil => simp at n
    | cons f ps => exact ⟨f, ps, rfl⟩
  obtain ⟨b, r, e1, m1, l1, g1, d1⟩ := stack_ok A e
  -- the way back
  have A2 := asc_rev A
  obtain ⟨f2, ps2, e2⟩ : ∃ f ps, S.reverse.map ng = f :: ps := by
    cases h : S.reverse.map ng with
    | nil =>
      have := congrArg List.length h
      simp at this
      rw [this] at n
      simp at n
    | cons f ps => exact ⟨f, ps, rfl⟩
  obtain ⟨b2, r2, e3, m2, l2, g2, d2⟩ := stack_ok A2 e2
  have e4 : chainS [] (S.reverse.map ng) = (chainS [] S.reverse).map ng := chainS_ng S.reverse []
  rw [e4] at e3
  obtain ⟨b', r', e5, eb, er⟩ : ∃ b' r', chainS [] S.reverse = b' :: r' ∧ b2 = ng b' ∧ r2 = r'.map ng := by
    cases h : chainS [] S.reverse with
    | nil => rw [h] at e3; cases e3
    | cons x y =>
      rw [h] at e3
      injection e3 with q1 q2
      exact ⟨x, y, rfl, q1.symm, q2.symm⟩
  subst eb er
  have back : ∀ {s : Pt}, ng s ∈ S.reverse.map ng → s ∈ S := fun {s} m => by
    obtain ⟨t, mt, et⟩ := List.mem_map.mp m
    have : t = s := by rw [← ng_ng t, et, ng_ng]
    rw [← this]
    exact List.mem_reverse.mp mt
  have m2' : ∀ s ∈ b' :: r', s ∈ S := fun s m => back (m2 (ng s) (List.mem_map_of_mem (f := ng) m))
  have d2' : ∀ pr ∈ prs (b' :: r').reverse, ∀ s ∈ S, 0 ≤ dt pr.1 pr.2 s := fun pr m s ms => by
    have mp : ∀ l : List Pt, ∀ pr ∈ prs l, (ng pr.1, ng pr.2) ∈ prs (l.map ng) := by
      intro l
      induction l with
      | nil => intro pr m; cases m
      | cons x t ih =>
        intro pr m
        cases t with
        | nil => cases m
        | cons y t =>
          rcases List.mem_cons.mp m with q | q
          · rw [q]
            exact List.mem_cons_self
          · exact List.mem_cons_of_mem _ (ih pr q)
    have := d2 (ng pr.1, ng pr.2) (by
      have z := mp _ pr m
      rw [List.map_reverse] at z
      exact z) (ng s) (List.mem_map_of_mem (f := ng) (List.mem_reverse.mpr ms))
    rwa [dt_ng] at this
  -- the top of the way back is the first place, its bottom the last one
  have last_map : ∀ {l : List Pt} {x : Pt}, (l.map ng).getLast? = some (ng x) → l.getLast? = some x := fun {l x} h => by
    rw [List.getLast?_map] at h
    cases q : l.getLast? with
    | none => rw [q] at h; cases h
    | some y =>
      rw [q] at h
      have h : ng y = ng x := Option.some.inj h
      rw [← ng_ng y, h, ng_ng]
  have t2 : b' = f := by
    have z := last_map g2
    rw [e, List.reverse_cons, List.getLast?_append] at z
    exact (Option.some.inj z).symm
  have f2e : f2 = ng b := by
    have z : (S.reverse.map ng).head? = some f2 := by rw [e2]; rfl
    rw [List.head?_map, List.head?_reverse, g1] at z
    exact (Option.some.inj z).symm
  have l2' : (b' :: r').getLast? = some b := by
    rw [f2e] at l2
    exact last_map l2
  subst t2
  -- neither stack is one place alone
  have nb : b ≠ b' := fun z => by
    obtain ⟨t, et⟩ := List.getLast?_eq_some_iff.mp g1
    rw [e] at et
    cases t with
    | nil =>
      injection et with q1 q2
      rw [e, q2] at n
      simp at n
    | cons x t =>
      injection et with q1 q2
      have srt := A.srt
      rw [e] at srt
      have := (List.pairwise_cons.mp srt).1 b (by rw [q2]; exact List.mem_append_right _ List.mem_cons_self)
      rw [z] at this
      exact lt_no this this
  obtain ⟨x, r0, er⟩ : ∃ x r0, r = x :: r0 := by
    cases r with
    | nil =>
      rw [List.getLast?_singleton] at l1
      exact (nb (Option.some.inj l1)).elim
    | cons x r0 => exact ⟨x, r0, rfl⟩
  obtain ⟨y, r1, er'⟩ : ∃ y r1, r' = y :: r1 := by
    cases r' with
    | nil =>
      rw [List.getLast?_singleton] at l2'
      exact (nb (Option.some.inj l2').symm).elim
    | cons y r1 => exact ⟨y, r1, rfl⟩
  have eH : hullP S = r.reverse ++ r'.reverse := by
    unfold hullP
    rw [if_neg (by omega), e1, e5]
    rfl
  have hr : r.getLast? = some b' := by
    rw [er] at l1 ⊢
    rw [List.getLast?_cons_cons] at l1
    exact l1
  have hr' : r'.getLast? = some b := by
    rw [er'] at l2' ⊢
    rw [List.getLast?_cons_cons] at l2'
    exact l2'
  obtain ⟨u, eu⟩ := List.getLast?_eq_some_iff.mp hr
  obtain ⟨v, ev⟩ := List.getLast?_eq_some_iff.mp hr'
  have eu' : r.reverse = b' :: u.reverse := by rw [eu, List.reverse_append]; rfl
  have ev' : r'.reverse = b :: v.reverse := by rw [ev, List.reverse_append]; rfl
  refine ⟨fun s m => ?_, ?_, fun pr m s ms => ?_, fun p q h => ?_, ?_⟩
  · rw [eH] at m
    rcases List.mem_append.mp m with m | m
    · exact m1 s (List.mem_cons_of_mem _ (List.mem_reverse.mp m))
    · exact m2' s (List.mem_cons_of_mem _ (List.mem_reverse.mp m))
  · rw [eH, List.length_append, List.length_reverse, List.length_reverse, er, er']
    show 2 ≤ r0.length + 1 + (r1.length + 1)
    omega
  · have closed : hullP S ++ (hullP S).take 1 = r.reverse ++ b :: (v.reverse ++ [b']) := by
      rw [eH, ev', eu']
      simp
    rw [closed, prs_app] at m
    rcases List.mem_append.mp m with m | m
    · refine d1 pr ?_ s ms
      rw [List.reverse_cons]
      exact m
    · refine d2' pr ?_ s ms
      rw [List.reverse_cons, ev']
      exact m
  · rw [eH, eu', ev'] at h
    have h : b' :: (u.reverse ++ b :: v.reverse) = [p, q] := h
    injection h with h1 h2
    have hu : u.reverse = [] := by
      have := congrArg List.length h2
      simp at this
      exact List.length_eq_zero_iff.mp (by rw [List.length_reverse]; omega)
    rw [hu] at h2
    have h2 : b :: v.reverse = [q] := h2
    injection h2 with h2 _
    subst h1 h2
    obtain ⟨t, et⟩ := List.getLast?_eq_some_iff.mp g1
    have srt := A.srt
    rw [e] at srt et
    cases t with
    | nil =>
      injection et with q1 q2
      exact (nb q1.symm).elim
    | cons x t =>
      injection et with q1 q2
      exact (List.pairwise_cons.mp srt).1 b (by rw [q2]; exact List.mem_append_right _ List.mem_cons_self)
  · rw [eH, eu', e]
    rfl
end Pg
set_option exponentiation.threshold 2000
/-! Pg9: slices, None, in, chains, unpacked lists over data; directions, half planes. -/
namespace Pg
open PySem PySem.Spec PyProof.Rows L2
section
variable {X : Cx}
/-- data in a row of data -/
def rInD (K : PySem.W.Frag) (neg : Bool) : R2 := fun x y H Q => ∃ d xs, Dt (fun _ => True) K H x d ∧ (Dt (fun _ => True) K H y (.tuple xs) ∨ Dt (fun _ => True) K H y (.list xs)) ∧ SeqAt.shaped d = true ∧ SeqAt.shaped (.tuple xs) = true ∧
  Q (.bl (if neg then !(xs.any fun z => PyData.eqv z d) else xs.any fun z => PyData.eqv z d)) H
theorem un65 {k : Nat} {A : Around} (r : Room k A) : A.units + 65 < cLine := by have := r.un; omega
theorem op_notInD (hu : X.A.units + 65 < cLine) : OpR X (compareOp .NotIn) (rInD X.K true) := by
  intro pins s σ H x y v u Q I rx ry h
  obtain ⟨d, xs, hd, hx, sd, sx, q⟩ := h
  obtain ⟨as, r1, _⟩ := Dt.reads I v hd rx (noOb_shaped sd)
  rcases hx with hx | hx
  · obtain ⟨bs, r2, _⟩ := Dt.reads I u hx ry (noOb_shaped (d := .tuple xs) sx)
    exact SeqAt.notIn_tuple_reads r2 r1 (SeqAt.canLay_of_shaped sx) (SeqAt.canLay_of_shaped sd) (room_in_shaped sd hu) ⟨.bl _, H, I, rfl, q⟩
  · obtain ⟨bs, r2, _⟩ := Dt.reads I u hx ry (noOb_shaped (d := .tuple xs) sx)
    exact SeqAt.notIn_list_reads r2 r1 (SeqAt.canLay_of_shaped sx) (SeqAt.canLay_of_shaped sd) (room_in_shaped sd hu) ⟨.bl _, H, I, rfl, q⟩
theorem sl_listK {K : PySem.W.Frag} (h : X.K = K) : SlR X (rSlL K) := by
  subst h
  exact sl_list
theorem pg_lstK {K : PySem.W.Frag} {es : List Expr} {k : Nat} {t : TGs} {n : Nat} {pos : Pos} (hK : X.K = K) (hc : X.calm = true) (h : PGs X es t)
    (hn : (assignEach es X.env).length = n := by rfl) (hst : (assignEach es X.env).findIdx? (·.1) = none := by rfl) : PG X (.Tuple es k pos) (gLst K n t) := by
  subst hK
  exact pg_lst hc h hn hst
end
section
variable {K : PySem.W.Frag} {F : Fx} {δ : Se} {ta tb tc te : TE} {P : PyData → Prop} {i : Nat} {d : PyData} {tl th : TO}
theorem od_in {neg : Bool} : OpD K F (rInD K neg) (fun d e P => ∃ xs, (e = .tuple xs ∨ e = .list xs) ∧ SeqAt.shaped d = true ∧ SeqAt.shaped (.tuple xs) = true ∧ P (.bool (if neg then !(xs.any fun z => PyData.eqv z d) else xs.any fun z => PyData.eqv z d))) :=
  ⟨fun O H σ δ x y d e P Q S t1 t2 ⟨xs, h1, sd, sx, p⟩ q => ⟨d, xs, t1.mono fun _ _ => trivial, by
    rcases h1 with h1 | h1
    · subst h1
      exact .inl (t2.mono fun _ _ => trivial)
    · subst h1
      exact .inr (t2.mono fun _ _ => trivial), sd, sx, q H _ _ .refl S (.bl _) p⟩⟩
theorem v_chain {r r' : R2} {G G' : PyData → PyData → (PyData → Prop) → Prop} (o : OpD K F r G) (o' : OpD K F r' G')
    (h : EV K F δ ta fun d => EV K F δ tb fun e => G d e fun z => ∃ k, z = .bool k ∧ (k = true → EV K F δ tc fun f => G' e f P) ∧ (k = false → P (.bool false))) : EV K F δ (tChain r r' ta tb tc) P := fun O H σ S Q q =>
  h O H σ S _ fun H1 x d k1 S1 t1 h1 => h1 O H1 σ S1 _ fun H2 y e k2 S2 t2 g => o.run O H2 σ δ x y d e _ _ S2 (t1.stp (k2.stp S.bs.ok)) t2 g fun H3 z s k3 S3 t3 ⟨k, e', a, b⟩ => by
    subst e'
    cases t3
    refine ⟨k, rfl, ?_⟩
    cases k with
    | true =>
      rw [if_pos rfl]
      exact a rfl O H3 σ S3 _ fun H4 w f k4 S4 t4 g' => o'.run O H4 σ δ y w e f P Q S4 (t2.stp ((k3.trans k4).stp S.bs.ok)) t4 g' fun H5 v s k5 S5 t5 p =>
        q H5 v s ((((k1.trans k2).trans k3).trans k4).trans k5) S5 t5 p
    | false =>
      rw [if_neg (by decide)]
      exact q H3 _ _ ((k1.trans k2).trans k3) S3 (.bl false) (b rfl)
/-! ### slices -/
def OV (K : PySem.W.Frag) (F : Fx) (δ : Se) (tl : TO) (P : Option Int → Prop) : Prop := ∀ (O : Ow) (H : Hp) (σ : L2.St), Sts K F O H σ δ → ∀ Q : Option Int → Hp → Prop,
  (∀ H' l, Kp F H H' → Sts K F O H' σ δ → P l → Q l H') → tl σ H Q
theorem o_none {P : Option Int → Prop} (p : P none) : OV K F δ tNoPart P := fun O H σ S Q q => q H none .refl S p
theorem o_some {P : Option Int → Prop} (h : EV K F δ te fun d => ∃ i, d = .int i ∧ P (some i)) : OV K F δ (tPart te) P := fun O H σ S Q q =>
  h O H σ S _ fun H1 v d k1 S1 t1 ⟨i, e, p⟩ => by
    subst e
    cases t1
    exact ⟨i, rfl, q H1 _ k1 S1 p⟩
def cutD (ds : List PyData) (lo hi : Option Int) : List PyData := (ds.drop (HT.sIx ds.length 0 lo)).take (HT.sIx ds.length ds.length hi - HT.sIx ds.length 0 lo)
theorem dts_drop {av : Addr → Prop} {H : Hp} : ∀ (n : Nat) {vs : List V} {ds : List PyData}, Dts av K H vs ds → Dts av K H (vs.drop n) (ds.drop n)
  | 0, _, _, t => t
  | n + 1, _, _, .nil => .nil
  | n + 1, _, _, .cons _ t => dts_drop n t
theorem dts_take {av : Addr → Prop} {H : Hp} : ∀ (n : Nat) {vs : List V} {ds : List PyData}, Dts av K H vs ds → Dts av K H (vs.take n) (ds.take n)
  | 0, _, _, t => .nil
  | n + 1, _, _, .nil => .nil
  | n + 1, _, _, .cons a t => .cons a (dts_take n t)
theorem dts_cut {av : Addr → Prop} {H : Hp} {vs : List V} {ds : List PyData} {lo hi : Option Int} (t : Dts av K H vs ds) : Dts av K H (cutV vs lo hi) (cutD ds lo hi) := by
  unfold cutV cutD
  rw [t.length]
  exact dts_take _ (dts_drop _ t)
theorem v_cutL (h : EV K F δ te fun d => ∃ ds, d = .list ds ∧ OV K F δ tl fun lo => OV K F δ th fun hi => P (.list (cutD ds lo hi))) :
    EV K F δ (tSl (rSlL K) te tl th) P := fun O H σ S Q q =>
  h O H σ S _ fun H1 v d k1 S1 t1 ⟨ds, e, h1⟩ => h1 O H1 σ S1 _ fun H2 lo k2 S2 h2 => h2 O H2 σ S2 _ fun H3 hi k3 S3 p => by
    subst e
    have t3 := t1.stp ((k2.trans k3).stp S.bs.ok)
    cases t3 with
    | lst s u =>
      refine ⟨_, _, rfl, s.sq, fun p' np => ?_⟩
      exact q _ _ _ (((k1.trans k2).trans k3).trans (.new np)) (S3.new np) (.lst (.of (S3.fresh np) upd_same) ((dts_cut u).stp ((Kp.new np).stp S.bs.ok))) p
theorem g_lst {n : Nat} {gs : TGs} {ds : List PyData} {N : Se → Prop} (hn : ds.length = n) (h : GsV K F δ gs ds N) : GV K F δ (gLst K n gs) (.list ds) N := fun O H σ v S t Q q => by
  cases t with
  | lst s t2 => exact ⟨_, _, rfl, s.sq, by rw [t2.length]; exact hn, h O H σ _ S t2 Q q⟩
/-- branches of an if brought together -/
theorem SV.toN {t : TS} {P : Po} {N : Se → Prop} (h : SV K F δ t { P with N := N }) (m : ∀ δ', N δ' → P.N δ') : SV K F δ t P :=
  fun O H σ S D n r b c => h O H σ S D (fun O' H' σ' δ' s S' p => n O' H' σ' δ' s S' (m _ p)) r b c
end
/-! ### what a turn is -/
/-! ### directions -/
def dg (a b : Int) : Int := (Nat.gcd a.natAbs b.natAbs : Nat)
def dirD (a b : Int) : PyData := fr (a.fdiv (dg a b)) (b.fdiv (dg a b))
/-- a direction in its form -/
abbrev Dr (a b : Int) : Prop := dg a b = 1
theorem Dr.ne {a b : Int} (h : Dr a b) : a ≠ 0 ∨ b ≠ 0 := by
  rcases Classical.em (a = 0) with z | z
  · rcases Classical.em (b = 0) with y | y
    · subst z y
      cases h
    · exact .inr y
  · exact .inl z
/-! ### half planes -/
def hfD (a b c : Int) : PyData := pl (a.fdiv (g3 a b c : Nat)) (b.fdiv (g3 a b c : Nat)) (c.fdiv (g3 a b c : Nat))
def isHalf (d : PyData) : Bool := match d with
  | .tuple [.int a, .int b, .int c] => !(decide (a = 0) && decide (b = 0)) && decide (g3 a b c = 1)
  | _ => false
end Pg
/-! Pg10: an own exception whose __init__ is super().__init__(text): made, raised, caught; defs that raise it, over data. -/
namespace PgS
open PySem PySem.W PySem.Calls PyProof.Rows PySem.HandSPX
/-! ### the text of __init__ -/
section
variable {prog : Program} {w : World} {A : Around} {E : Value → Shared → Prop} {R : Result → Shared → Prop} {s : Shared} {K : Frag} {mg mb : Str → Option Value} {C fI : Addr} {x0 qual : Str}
end
end PgS
namespace Pg
open PySem PySem.Spec PyProof.Rows L2
section
variable {X : Cx} {x qual : Str} {C fI : Addr} {k : Nat} {p pos pos2 : Pos}
end
/-! ### defs that raise -/
section
variable {P : Program} {w : World} {K : PySem.W.Frag} {mg : Str → Option Value} {base : Heap}
end
section
variable {X : Cx} {k : Nat} {x : Str} {ps : List Str} {sp : Sp} {p pos : Pos} {e : Expr} {es : List Expr} {t : TA} {E : L2.St → XK}
end
/-! ### over data -/
section
variable {P : Program} {w : World} {K : PySem.W.Frag} {mg : Str → Option Value} {base : Heap}
end
section
variable {K : PySem.W.Frag} {F : Fx} {δ : Se} {P : Po} {C : Addr} {E : XK} {t : TA} {ts : TS} {G : List PyData → (PyData → Prop) → Prop → Prop}
end
section
variable {P : Program} {w : World} {K : PySem.W.Frag} {mg : Str → Option Value} {base : Heap}
end
section
variable {X : Cx} {K : PySem.W.Frag} {C fI : Addr} {k : Nat} {f x qual : Str} {ps : List Str} {G : List PyData → (PyData → Prop) → Prop → Prop} {e : Expr} {es : List Expr} {t : TA} {ts : TS} {b₀ : Stmt} {suite : List Stmt} {p p1 pr ps1 np pos pos' : Pos}
end
section
variable {X : Cx}
variable {K : PySem.W.Frag} {F : Fx}
end
end Pg
set_option exponentiation.threshold 2000
/-! Pg11: what is told or refused: places, directions, half planes; rows of three with an odd thing among them. -/
namespace Pg
open PySem PySem.Spec PyProof.Rows L2
def noneT : PyData := .tuple [.str "none"]
def isZ : PyData → Bool
  | .int i => decide (i = 0)
  | _ => false
def toldPl : PyData → PyData → PyData → PyData
  | .int x, .int y, .int d => if d = 0 then noneT else plD x y d
  | _, _, _ => noneT
/-! ### texts of rows of three -/
theorem short_n {xs : List PyData} (h : xs.length ≤ 1000) : shortT (.tuple xs) := fun ys e => by
  cases e
  exact h
end Pg
set_option exponentiation.threshold 2000
/-! Pg12: directions and half planes told or refused; texts of lists of short data. -/
namespace Pg
open PySem PySem.Spec PyProof.Rows L2
def toldDr : PyData → PyData → PyData
  | .int a, .int b => if a = 0 ∧ b = 0 then noneT else dirD a b
  | _, _ => noneT
def toldHf : PyData → PyData → PyData → PyData
  | .int a, .int b, .int c => if a = 0 ∧ b = 0 then noneT else hfD a b c
  | _, _, _ => noneT
/-- rows of two -/
def isDir (d : PyData) : Bool := match d with
  | .tuple [.int a, .int b] => decide (Nat.gcd a.natAbs b.natAbs = 1)
  | _ => false
/-! ### texts of lists -/
structure Ok0 (d : PyData) : Prop where
  ok : Ok1 d
  nd : d.hasDict = false
theorem Ok0.int {i : Int} (h : i.natAbs < 10 ^ 500) : Ok0 (.int i) := ⟨.int h, rfl⟩
theorem all_ok0 : ∀ {ds : List PyData}, (∀ d ∈ ds, Ok0 d) → leafyAll ds ∧ nodesAll ds ≤ 100 * ds.length ∧ PyData.depthAll ds ≤ 10 ∧ PyData.hasDictAll ds = false
  | [], _ => ⟨trivial, Nat.le_refl _, Nat.zero_le _, rfl⟩
  | d :: ds, h => by
    obtain ⟨a1, a2, a3, a4⟩ := all_ok0 (ds := ds) fun e m => h e (List.mem_cons_of_mem _ m)
    have b := h d List.mem_cons_self
    have b2 := b.ok.nd
    have b3 := b.ok.deep
    refine ⟨⟨b.ok.leaf, a1⟩, ?_, ?_, ?_⟩
    · show nodes d + nodesAll ds ≤ 100 * (ds.length + 1)
      omega
    · show max d.depth (PyData.depthAll ds) ≤ 10
      omega
    · show (d.hasDict || PyData.hasDictAll ds) = false
      rw [b.nd, a4]
      rfl
theorem shw_lst {ds : List PyData} (h : ∀ d ∈ ds, Ok0 d) (n : ds.length ≤ 100) : Shw (.list ds) := by
  obtain ⟨a1, a2, a3, a4⟩ := all_ok0 h
  refine shw_nd (d := .list ds) a1 ?_ ?_ a4
  · show 1 + nodesAll ds ≤ 16000
    omega
  · show PyData.depthAll ds + 1 ≤ 60
    omega
end Pg
set_option exponentiation.threshold 2000
/-! Pg13: directions in a round. -/
namespace Pg
open PySem PySem.Spec PyProof.Rows L2
/-! ### the round: side, ahead, rank -/
def sd (a b : Int) : Prop := b < 0 ∨ (b = 0 ∧ a < 0)
/-! ### the order -/
/-! ### what is between -/
theorem sq_pos {a b : Int} (h : a ≠ 0 ∨ b ≠ 0) : 0 < a * a + b * b := by
  have n : ∀ z : Int, 0 ≤ z * z := fun z => by
    rcases Int.le_total 0 z with q | q
    · exact Int.mul_nonneg q q
    · exact Int.mul_nonneg_of_nonpos_of_nonpos q q
  have n1 := n a
  have n2 := n b
  rcases h with h | h
  · have : a * a ≠ 0 := Int.mul_ne_zero h h
    omega
  · have : b * b ≠ 0 := Int.mul_ne_zero h h
    omega
theorem eqv_fr2 {a b c d : Int} : PyData.eqv (fr a b) (fr c d) = (decide (a = c) && decide (b = d)) := by
  show ((a == c) && ((b == d) && true)) = _
  rw [Bool.and_true]
  rfl
theorem eqv_fr_iff {a b c d : Int} : PyData.eqv (fr a b) (fr c d) = true ↔ (a = c ∧ b = d) := by
  rw [eqv_fr2, Bool.and_eq_true, decide_eq_true_eq, decide_eq_true_eq]
theorem op_neXK {X : Cx} {K : PySem.W.Frag} (h : X.K = K) (hu : X.A.units + 64 < cLine) : OpR X (compareOp .NotEq) (rOr (rNeT K) rNe) := by
  subst h
  exact op_neX hu
end Pg
/-! Pg16: plates, the places they have, in plain Lean; places' data. -/
namespace Pg
open PySem PySem.Spec PyProof.Rows L2
structure PlateP (H : List Pt) : Prop where
  w : ∀ p ∈ H, 0 < p.w
  ne : H ≠ []
  edg : ∀ pr ∈ prs (H ++ H.take 1), ∀ s ∈ H, 0 ≤ dt pr.1 pr.2 s
  two : ∀ a b, H = [a, b] → lt a b
instance {p q : Pt} : Decidable (lt p q) := by
  unfold lt up
  infer_instance
def edB (H : List Pt) (p : Pt) : Bool := (prs (H ++ H.take 1)).all fun pr => decide (0 ≤ dt pr.1 pr.2 p)
/-- whether a plate has a place -/
def hasB (H : List Pt) (p : Pt) : Bool := edB H p && (decide (2 < H.length) || (H.head?.all fun a => !decide (lt p a)) && H.getLast?.all fun b => !decide (lt b p))
/-- in the hull: where all that is at least 0 at the corners is at least 0 -/
def Cv (H : List Pt) (m : Pt) : Prop := ∀ u v t : Int, (∀ s ∈ H, 0 ≤ u * s.x + v * s.y + t * s.w) → 0 ≤ u * m.x + v * m.y + t * m.w
theorem dt_lin (a b r : Pt) : dt a b r = (a.y * b.w - a.w * b.y) * r.x + (a.w * b.x - a.x * b.w) * r.y + (a.x * b.y - a.y * b.x) * r.w := by
  unfold dt det3
  grind
/-- not ahead of the least corner of a stretch -/
theorem Cv.low {H : List Pt} {a m : Pt} (wa : 0 < a.w) (wm : 0 < m.w) (h : Cv H m) (hb : ∀ s ∈ H, s = a ∨ lt a s) : ¬ lt m a := by
  intro l
  have fx : 0 ≤ m.x * a.w - a.x * m.w := by
    have := h a.w 0 (-a.x) (fun s ms => by
      rcases hb s ms with e | e
      · subst e
        have := Int.mul_comm s.w s.x
        rw [Int.neg_mul]
        omega
      · unfold lt up wy at e
        have k1 := Int.mul_comm a.w s.x
        rw [Int.neg_mul]
        omega)
    have k1 := Int.mul_comm a.w m.x
    rw [Int.neg_mul] at this
    omega
  unfold lt up wy at l
  have l : m.x * a.w - a.x * m.w = 0 ∧ m.y * a.w - a.y * m.w < 0 := by omega
  -- one number for all corners: how far beyond in x, at least as much as how far below in y
  have key : ∀ H' : List Pt, (∀ s ∈ H', s = a ∨ lt a s) → ∃ N : Int, 0 ≤ N ∧ ∀ s ∈ H', 0 ≤ N * (s.x * a.w - a.x * s.w) + (s.y * a.w - a.y * s.w) := by
    intro H'
    induction H' with
    | nil => intro _; exact ⟨0, Int.le_refl 0, fun s m => by cases m⟩
    | cons s r ih =>
      intro hb
      obtain ⟨N, n0, hN⟩ := ih fun t mt => hb t (List.mem_cons_of_mem _ mt)
      refine ⟨N + (s.y * a.w - a.y * s.w).natAbs, by omega, fun t mt => ?_⟩
      have up : ∀ t : Pt, (t = a ∨ lt a t) → 0 ≤ t.x * a.w - a.x * t.w := fun t ht => by
        rcases ht with e | e
        · subst e
          have := Int.mul_comm t.x t.w
          omega
        · unfold lt Pg.up wy at e
          omega
      rcases List.mem_cons.mp mt with e | mt
      · subst e
        have u := up t (hb t List.mem_cons_self)
        rcases hb t List.mem_cons_self with e | e
        · subst e
          have z1 : t.x * t.w - t.x * t.w = 0 := by omega
          have z2 : t.y * t.w - t.y * t.w = 0 := by omega
          rw [z1, z2, Int.mul_zero]
          omega
        · unfold lt Pg.up wy at e
          rw [Int.add_mul]
          have q := Int.mul_nonneg n0 u
          rcases e with e | ⟨e1, e2⟩
          · have : (t.y * a.w - a.y * t.w).natAbs * 1 ≤ ((t.y * a.w - a.y * t.w).natAbs : Int) * (t.x * a.w - a.x * t.w) := Int.mul_le_mul_of_nonneg_left (by omega) (by omega)
            omega
          · have e1 : t.x * a.w - a.x * t.w = 0 := e1
            rw [e1, Int.mul_zero, Int.mul_zero]
            omega
      · have u := up t (hb t (List.mem_cons_of_mem _ mt))
        have q := hN t mt
        have : 0 ≤ ((s.y * a.w - a.y * s.w).natAbs : Int) * (t.x * a.w - a.x * t.w) := Int.mul_nonneg (by omega) u
        rw [Int.add_mul]
        omega
  obtain ⟨N, n0, hN⟩ := key H hb
  have z := h (N * a.w) a.w (-(N * a.x) - a.y) (fun s ms => by
    have := hN s ms
    have e : N * a.w * s.x + a.w * s.y + (-(N * a.x) - a.y) * s.w = N * (s.x * a.w - a.x * s.w) + (s.y * a.w - a.y * s.w) := by grind
    rw [e]
    exact this)
  have e : N * a.w * m.x + a.w * m.y + (-(N * a.x) - a.y) * m.w = N * (m.x * a.w - a.x * m.w) + (m.y * a.w - a.y * m.w) := by grind
  rw [e, l.1, Int.mul_zero] at z
  omega
theorem Cv.ng {H : List Pt} {m : Pt} (h : Cv H m) : Cv (H.map ng) (ng m) := fun u v t hs => by
  have z := h (-u) (-v) t fun s ms => by
    have := hs (Pg.ng s) (List.mem_map_of_mem ms)
    unfold Pg.ng at this
    rw [Int.mul_neg, Int.mul_neg] at this
    rw [Int.neg_mul, Int.neg_mul]
    exact this
  unfold Pg.ng
  rw [Int.mul_neg, Int.mul_neg]
  rw [Int.neg_mul, Int.neg_mul] at z
  exact z
/-! ### the middle of a place and the first corner -/
/-! ### a stretch: told by steps -/
end Pg
/-! Pg17: while over data, tuple(list), list(tuple), slices and sums of tuples; places as data. -/
namespace Pg
open PySem PySem.Spec PyProof.Rows L2
section
variable {K : PySem.W.Frag} {F : Fx} {δ : Se} {P : Po} {te : TE} {tl th : TO}
theorem cd_tupleL : CaD K F (fun xs H Q => ∃ p ys, xs = [V.ref p] ∧ ((SqL K H p ys ∧ ∀ l, H l = none → Q (.ref l) (upd H l (.tup ys))) ∨ (SqT K H p ys ∧ Q (.ref p) H))) (fun ds P => ∃ xs, ds = [.list xs] ∧ P (.tuple xs)) :=
  ⟨fun O H σ δ vs ds P Q S t ⟨xs, e, p⟩ q => by
    subst e
    obtain ⟨v, rfl, h⟩ := dts_one t
    cases h with
    | lst s u => exact ⟨_, _, rfl, .inl ⟨s.sq, fun p' np => q _ _ _ (.new np) (S.new np) (.tup (.of (S.fresh np) upd_same) (u.stp ((Kp.new np).stp S.bs.ok))) p⟩⟩⟩
theorem dts_nil_iff {av : Addr → Prop} {H : Hp} {vs : List V} {ds : List PyData} (t : Dts av K H vs ds) : vs = [] ↔ ds = [] := by
  cases t with
  | nil => simp
  | cons _ _ => simp
theorem od_catA : OpD K F (rCatA K) (fun d e P => ∃ xs ys, d = .tuple xs ∧ e = .tuple ys ∧ xs.length + ys.length ≤ 1000000 ∧ P (.tuple (xs ++ ys))) :=
  ⟨fun O H σ δ x y d e P Q S t1 t2 ⟨xs, ys, h1, h2, hl, p⟩ q => by
    subst h1 h2
    cases t1 with
    | tup s1 u1 =>
      cases t2 with
      | tup s2 u2 =>
        refine ⟨_, _, _, _, rfl, rfl, s1.sq, s2.sq, small_size (by rw [u1.length, u2.length]; exact hl), fun e => ?_, fun _ e => ?_, fun _ _ p' np => ?_⟩
        · have e := (dts_nil_iff u1).mp e
          rw [e, List.nil_append] at p
          exact q H _ _ .refl S (.tup s2 u2) p
        · have e := (dts_nil_iff u2).mp e
          rw [e, List.append_nil] at p
          exact q H _ _ .refl S (.tup s1 u1) p
        · exact q _ _ _ (.new np) (S.new np) (.tup (.of (S.fresh np) upd_same) ((u1.append u2).stp ((Kp.new np).stp S.bs.ok))) p⟩
theorem cut_whole {ds : List PyData} {lo hi : Option Int} (h : HT.sIx ds.length 0 lo = 0 ∧ HT.sIx ds.length ds.length hi = ds.length) : Pg.cutD ds lo hi = ds := by
  unfold Pg.cutD
  rw [h.1, h.2, List.drop_zero, Nat.sub_zero, List.take_of_length_le (Nat.le_refl _)]
end
section
variable {X : Cx} {K : PySem.W.Frag}
theorem op_catAK (h : X.K = K) : OpR X (binaryOp .Add) (rCatA K) := by
  subst h
  exact op_catA
end
/-! ### places as data -/
def pD (p : Pt) : PyData := pl p.x p.y p.w
/-- a place in its form -/
abbrev FP (p : Pt) : Prop := Pl p.x p.y p.w
theorem FP.w {p : Pt} (h : FP p) : 0 < p.w := h.pos
theorem fp_cmp {p q : Pt} (hp : FP p) (hq : FP q) : p = q ∨ lt p q ∨ lt q p := by
  by_cases h : p.x * q.w = q.x * p.w ∧ p.y * q.w = q.y * p.w
  · obtain ⟨h1, h2, h3⟩ := hp.uniq hq h.1 h.2
    obtain ⟨a, b, c⟩ := p
    obtain ⟨d, e, f⟩ := q
    simp only at h1 h2 h3
    subst h1 h2 h3
    exact .inl rfl
  · unfold lt up wy
    omega
end Pg
/-! Pg18: the laws' own hulls and plates: promises of the shared defs, and what they rest on. -/
namespace Pg
open PySem PySem.Spec PyProof.Rows L2
abbrev BP (p : Pt) : Prop := p.x.natAbs < 2 ^ 140 ∧ p.y.natAbs < 2 ^ 140 ∧ p.w.natAbs < 2 ^ 140
def GP (p : Pt) : Prop := FP p ∧ BP p
theorem cut_from {ds : List PyData} {k : Nat} : Pg.cutD ds (some (k : Int)) none = ds.drop k := by
  unfold Pg.cutD
  rw [HT.sIx_nat, HT.sIx_none]
  rcases Nat.le_total k ds.length with h | h
  · rw [Nat.min_eq_left h, List.take_of_length_le (by rw [List.length_drop]; omega)]
  · rw [Nat.min_eq_right h, List.drop_of_length_le (Nat.le_refl _), List.drop_of_length_le h, List.take_nil]
theorem cut_last {ds : List PyData} : Pg.cutD ds none (some (-1)) = ds.dropLast := by
  unfold Pg.cutD
  have e : HT.sIx ds.length ds.length (some (-1)) = ds.length - 1 := by
    show (if (-1 : Int) < 0 then ((-1 : Int) + (ds.length : Int)).toNat else min (-1 : Int).toNat ds.length) = _
    rw [if_pos (by decide)]
    omega
  rw [e, HT.sIx_none, List.drop_zero, Nat.sub_zero, List.dropLast_eq_take]
theorem at_last {xs : List PyData} {y : PyData} : atI (xs ++ [y]) (-1) = some y := by
  unfold atI ixN
  rw [List.length_append, if_neg (by decide), if_pos (by simp only [List.length_singleton]; omega)]
  show (xs ++ [y])[((-1 : Int) + ((xs.length + 1 : Nat) : Int)).toNat]? = some y
  have e : ((-1 : Int) + ((xs.length + 1 : Nat) : Int)).toNat = xs.length := by omega
  rw [e]
  simp
theorem popW_len {p : Pt} : ∀ {st : List Pt}, (popW p st).length ≤ st.length
  | [] => Nat.le_refl _
  | [_] => Nat.le_refl _
  | b :: a :: r => by
    unfold popW
    by_cases z : dt a b p ≤ 0
    · rw [if_pos z]
      exact Nat.le_trans popW_len (Nat.le_succ _)
    · rw [if_neg z]
      exact Nat.le_refl _
theorem chainS_len : ∀ {ps st : List Pt}, (chainS st ps).length ≤ st.length + ps.length
  | [], _ => Nat.le_refl _
  | p :: ps, st => by
    have h1 := chainS_len (ps := ps) (st := p :: popW p st)
    have h2 := popW_len (p := p) (st := st)
    show (chainS (p :: popW p st) ps).length ≤ _
    rw [List.length_cons] at h1
    rw [List.length_cons]
    omega
theorem take_up {α : Type} {S : List α} {i : Nat} {p : α} (h : S[i]? = some p) : S.take (i + 1) = S.take i ++ [p] := by
  rw [List.take_add_one, h]
  rfl
theorem hull_plate {S T : List Pt} (hS : ∀ s ∈ S, GP s) (n : S ≠ []) (sT : T.Pairwise lt) (mT : ∀ t ∈ T, t ∈ S) (nT : S ≠ [] → T ≠ []) : PlateP (hullP T) ∧ (∀ p ∈ hullP T, p ∈ S) ∧ (hullP T).length ≤ 2 * T.length := by
  have hw : ∀ t ∈ T, 0 < t.w := fun t m => (hS t (mT t m)).1.w
  have A : Asc T := ⟨hw, sT⟩
  have nT := nT n
  by_cases l : T.length < 2
  · have e : hullP T = T := by
      unfold hullP
      rw [if_pos l]
    rw [e]
    match T, nT, l, mT, hw with
    | [t], _, _, mT, hw =>
      refine ⟨⟨hw, by simp, fun pr m s _ => ?_, fun a b e => ?_⟩, mT, by simp⟩
      · have m : pr ∈ [(t, t)] := m
        rw [List.mem_singleton] at m
        subst m
        show 0 ≤ dt t t s
        have : dt t t s = 0 := by
          unfold dt det3
          grind
        omega
      · cases e
    | _ :: _ :: _, _, l, _, _ => exact absurd l (by simp)
  · have H := hull_ok A (by omega)
    refine ⟨⟨fun p m => hw p (H.1 p m), fun e => ?_, fun pr m s ms => H.2.2.1 pr m s (H.1 s ms), H.2.2.2.1⟩, fun p m => mT p (H.1 p m), ?_⟩
    · have := H.2.1
      rw [e] at this
      cases this
    · unfold hullP
      rw [if_neg l, List.length_append, List.length_reverse, List.length_reverse, List.length_tail, List.length_tail]
      have h1 := chainS_len (ps := T) (st := [])
      have h2 := chainS_len (ps := T.reverse) (st := [])
      rw [List.length_reverse] at h2
      have : ([] : List Pt).length = 0 := rfl
      omega
/-! ### pairs of neighbours -/
def pz : Pt := ⟨0, 0, 1⟩
def nbP (H : List Pt) : List (Pt × Pt) := (prs (H ++ H.take 1)).filter fun pr => !PyData.eqv (pD pr.1) (pD pr.2)
theorem prs_mem {L : List Pt} : ∀ pr ∈ prs L, pr.1 ∈ L ∧ pr.2 ∈ L := by
  induction L with
  | nil => exact fun pr m => by cases m
  | cons a r ih =>
    cases r with
    | nil => exact fun pr m => by cases m
    | cons b r =>
      intro pr m
      rcases List.mem_cons.mp m with e | m
      · subst e
        exact ⟨List.mem_cons_self, List.mem_cons_of_mem _ List.mem_cons_self⟩
      · obtain ⟨h1, h2⟩ := ih pr m
        exact ⟨List.mem_cons_of_mem _ h1, List.mem_cons_of_mem _ h2⟩
theorem cut_one {ds : List PyData} : Pg.cutD ds (some 1) none = ds.drop 1 := cut_from (k := 1)
end Pg
/-! Pg19: lists that a call tells are new (where nothing that is handed in can be changed): they may be changed; what is told of own lists. -/
namespace Pg
open PySem PySem.Spec PyProof.Rows L2
mutual
/-- nothing in it can be changed -/
def noMut : PyData → Bool
  | .list _ => false
  | .dict _ => false
  | .tuple xs => noMutA xs
  | _ => true
def noMutA : List PyData → Bool
  | [] => true
  | x :: xs => noMut x && noMutA xs
end
def Imm (H : Hp) (b : Addr) : Prop := ∀ xs, H b ≠ some (.lst xs)
section
variable {av : Addr → Prop} {K : PySem.W.Frag} {H : Hp}
mutual
theorem Dt.imm : ∀ {v : V} {d : PyData}, Dt av K H v d → noMut d = true → Dt (fun b => av b ∧ Imm H b) K H v d
  | _, _, .non, _ => .non
  | _, _, .bl b, _ => .bl b
  | _, _, .int i, _ => .int i
  | _, _, .str x, _ => .str x
  | _, _, .lst s t, h => by cases h
  | _, _, .dct a n s t, h => by cases h
  | _, _, .dcx a s c t, h => by cases h
  | _, _, .obj a s c t, h => by cases h
  | _, _, .tup s t, h => .tup (s.imp (fun s => ⟨⟨s.1, fun xs e => by
      rw [s.2] at e
      cases e⟩, s.2⟩) id) (Dts.imm t h)
theorem Dts.imm : ∀ {vs : List V} {ds : List PyData}, Dts av K H vs ds → noMutA ds = true → Dts (fun b => av b ∧ Imm H b) K H vs ds
  | _, _, .nil, _ => .nil
  | _, _, .cons a t, h => by
    have h2 := Bool.and_eq_true_iff.mp h
    exact .cons (Dt.imm a h2.1) (Dts.imm t h2.2)
end
end
section
variable {K : PySem.W.Frag} {F : Fx} {O O1 O2 : Ow} {H H1 H2 : Hp} {σ : L2.St} {δ : Se} {p : Addr} {i : Nat} {ta tb tc te : TE} {P : Po}
end
end Pg
/-! Pg20: the corners of a hull stand alone: none lies between two others, none stands twice (plain Lean). -/
namespace Pg
open PySem
/-- a place that lies between no two others -/
def Ext (S : List Pt) (s : Pt) : Prop := ∀ a ∈ S, ∀ b ∈ S, lt a s → lt s b → dt a s b ≠ 0
/-- what stands about an inner corner of a chain -/
structure Inn (S : List Pt) (s a c : Pt) : Prop where
  ma : a ∈ S
  mc : c ∈ S
  la : lt a s
  lc : lt s c
  tn : 0 < dt a s c
  ea : ∀ x ∈ S, 0 ≤ dt a s x
  ec : ∀ x ∈ S, 0 ≤ dt s c x
theorem inner {S : List Pt} : ∀ {st : List Pt}, Ch st S → ∀ s ∈ st.tail, st.getLast? ≠ some s → ∃ a c, Inn S s a c
  | [], _, s, m, _ => by cases m
  | [_], _, s, m, _ => by cases m
  | c :: [b], _, s, m, n => by
    have e : s = b := List.mem_singleton.mp m
    subst e
    exact (n rfl).elim
  | c :: b :: a :: r, C, s, m, n => by
    rcases List.mem_cons.mp m with e | m
    · subst e
      have q := List.pairwise_cons.mp C.srt
      have q2 := List.pairwise_cons.mp q.2
      exact ⟨a, c, C.sub a (List.mem_cons_of_mem _ (List.mem_cons_of_mem _ List.mem_cons_self)), C.sub c List.mem_cons_self, q2.1 a List.mem_cons_self, q.1 s List.mem_cons_self, C.trn.1, C.edg.2.1, C.edg.1⟩
    · exact inner C.tail s m fun e => n (by rw [List.getLast?_cons_cons]; exact e)
theorem Inn.ext {S : List Pt} {s a c : Pt} (I : Inn S s a c) (ws : 0 < s.w) : Ext S s := fun x mx y my lx ly e => by
  have c1 : 0 < cr (wy a s) (wy s c) := by rw [wy_b]; exact Int.mul_pos ws I.tn
  have c2 : 0 ≤ cr (wy x s) (wy a s) := by
    rw [wy_c]
    refine Int.mul_nonneg (Int.le_of_lt ws) ?_
    have := I.ea x mx
    have q : dt x a s = dt a s x := (dt_cyc x a s).symm
    rw [q]
    exact this
  have c3 : 0 ≤ cr (wy s c) (wy s y) := by
    rw [wy_a]
    exact Int.mul_nonneg (Int.le_of_lt ws) (I.ec y my)
  have c4 := cr_trans2 lx I.la I.lc c2 c1
  have c5 := cr_trans1 lx I.lc ly c4 c3
  rw [wy_b, e, Int.mul_zero] at c5
  exact Int.lt_irrefl 0 c5
theorem Ext.sub {S T : List Pt} {s : Pt} (h : Ext S s) (m : ∀ t ∈ T, t ∈ S) : Ext T s := fun a ma b mb => h a (m a ma) b (m b mb)
theorem ext_ng {S : List Pt} {s : Pt} (h : Ext (S.reverse.map ng) (ng s)) : Ext S s := fun a ma b mb la lb e => by
  refine h (ng b) (List.mem_map_of_mem (List.mem_reverse.mpr mb)) (ng a) (List.mem_map_of_mem (List.mem_reverse.mpr ma)) (lt_ng.mpr lb) (lt_ng.mpr la) ?_
  rw [dt_ng]
  have : dt b s a = - dt a s b := by
    unfold dt det3
    grind
  rw [this, e]
  rfl
/-- the chain with all that is known of it -/
theorem chain_ch {S : List Pt} (A : Asc S) {f : Pt} {ps : List Pt} (e : S = f :: ps) : ∃ b r done, chainS [] S = b :: r ∧ Ch (b :: r) done ∧ (∀ s, s ∈ done ↔ s ∈ S) ∧ (∀ s ∈ S, s = b ∨ lt s b) := by
  subst e
  obtain ⟨s1, s2⟩ := List.pairwise_cons.mp A.srt
  have C0 : Ch [f] [f] := ⟨fun s m => A.w s (by rw [List.mem_singleton.mp m]; exact List.mem_cons_self), fun s m t n => .inl ((List.mem_singleton.mp m).trans (List.mem_singleton.mp n).symm), fun s m => m,
    List.pairwise_singleton _ _, trivial, trivial, ⟨f, rfl, fun s m => .inl (List.mem_singleton.mp m)⟩⟩
  obtain ⟨b, r, e, C, h⟩ := chain_ok ps f [] [f] C0 (fun s m => .inl (List.mem_singleton.mp m)) List.mem_cons_self (fun p m => A.w p (List.mem_cons_of_mem _ m)) s2 (fun s m p mp => by
    rw [List.mem_singleton.mp m]
    exact s1 p mp)
  have mem : ∀ s, s ∈ ps.reverse ++ [f] ↔ s ∈ f :: ps := fun s => by
    rw [List.mem_append, List.mem_reverse, List.mem_singleton, List.mem_cons]
    exact Or.comm
  exact ⟨b, r, _, e, C, mem, fun s m => h s ((mem s).mpr m)⟩
theorem inn_mem {S T : List Pt} {s a c : Pt} (I : Inn S s a c) (m : ∀ t, t ∈ S ↔ t ∈ T) : Inn T s a c :=
  ⟨(m a).mp I.ma, (m c).mp I.mc, I.la, I.lc, I.tn, fun x h => I.ea x ((m x).mpr h), fun x h => I.ec x ((m x).mpr h)⟩
theorem lt_ir {p : Pt} : ¬ lt p p := fun h => lt_no h h
/-- a chain's corner: the last place, the first one, or one within -/
theorem chain_cases {S : List Pt} (A : Asc S) {s : Pt} (m : s ∈ chainS [] S) : (∀ t ∈ S, t = s ∨ lt t s) ∨ (∀ t ∈ S, t = s ∨ lt s t) ∨ ∃ a c, Inn S s a c := by
  cases h : S with
  | nil =>
    rw [h] at m
    cases m
  | cons f ps =>
    obtain ⟨b, r, done, e, C, mem, top⟩ := chain_ch A h
    rw [e] at m
    rw [← h]
    rcases List.mem_cons.mp m with z | z
    · subst z
      exact .inl top
    · by_cases l : (b :: r).getLast? = some s
      · obtain ⟨x, ex, q⟩ := C.bot
        rw [l] at ex
        cases ex
        exact .inr (.inl fun t mt => q t ((mem t).mpr mt))
      · obtain ⟨a, c, I⟩ := inner C s z l
        exact .inr (.inr ⟨a, c, inn_mem I mem⟩)
theorem chain_ext {S : List Pt} (A : Asc S) {s : Pt} (m : s ∈ chainS [] S) (ws : 0 < s.w) : Ext S s := by
  rcases chain_cases A m with h | h | ⟨a, c, I⟩
  · intro x mx y my lx ly
    rcases h y my with e | e
    · rw [e] at ly
      exact (lt_ir ly).elim
    · exact (lt_no e ly).elim
  · intro x mx y my lx ly
    rcases h x mx with e | e
    · rw [e] at lx
      exact (lt_ir lx).elim
    · exact (lt_no e lx).elim
  · exact I.ext ws
theorem back_chain {S : List Pt} {s : Pt} (m : s ∈ chainS [] S.reverse) : ng s ∈ chainS [] (S.reverse.map ng) := by
  have e4 : chainS [] (S.reverse.map ng) = (chainS [] S.reverse).map ng := chainS_ng S.reverse []
  rw [e4]
  exact List.mem_map_of_mem m
theorem hull_mem {S : List Pt} {s : Pt} (m : s ∈ hullP S) : s ∈ chainS [] S ∨ s ∈ chainS [] S.reverse ∨ S.length < 2 := by
  unfold hullP at m
  by_cases h : S.length < 2
  · exact .inr (.inr h)
  · rw [if_neg h] at m
    rcases List.mem_append.mp m with m | m
    · exact .inl (List.mem_of_mem_tail (List.mem_reverse.mp m))
    · exact .inr (.inl (List.mem_of_mem_tail (List.mem_reverse.mp m)))
theorem hull_sub {S : List Pt} (A : Asc S) : ∀ s ∈ hullP S, s ∈ S := by
  by_cases h : S.length < 2
  · have e : hullP S = S := by
      unfold hullP
      rw [if_pos h]
    rw [e]
    exact fun s m => m
  · exact (hull_ok A (by omega)).1
theorem hull_ext {S : List Pt} (A : Asc S) : ∀ s ∈ hullP S, Ext S s := fun s m => by
  have ws := A.w s (hull_sub A s m)
  rcases hull_mem m with z | z | z
  · exact chain_ext A z ws
  · exact ext_ng (chain_ext (asc_rev A) (back_chain z) ws)
  · intro a ma b mb la lb
    have ms := hull_sub A s m
    match S, z, ma, ms with
    | [t], _, ma, ms =>
      rw [List.mem_singleton.mp ma, List.mem_singleton.mp ms] at la
      exact (lt_ir la).elim
theorem srt_nodup {l : List Pt} (h : l.Pairwise fun x y => lt y x) : l.Nodup := List.Pairwise.imp (fun {x y} (z : lt y x) (e : x = y) => lt_ir (p := y) (by rw [e] at z; exact z)) h
theorem asc_nodup {l : List Pt} (h : l.Pairwise lt) : l.Nodup := List.Pairwise.imp (fun {x y} (z : lt x y) (e : x = y) => lt_ir (p := y) (by rw [e] at z; exact z)) h
theorem hull_nodup {S : List Pt} (A : Asc S) : (hullP S).Nodup := by
  unfold hullP
  by_cases h : S.length < 2
  · rw [if_pos h]
    exact asc_nodup A.srt
  · rw [if_neg h]
    obtain ⟨f, ps, e⟩ : ∃ f ps, S = f :: ps := by
      cases S with
      | nil => simp at h
      | cons f ps => exact ⟨f, ps, rfl⟩
    obtain ⟨b, r, done, e1, C, mem, top⟩ := chain_ch A e
    have A2 := asc_rev A
    obtain ⟨f2, ps2, e2⟩ : ∃ f ps, S.reverse.map ng = f :: ps := by
      cases h2 : S.reverse.map ng with
      | nil =>
        have := congrArg List.length h2
        simp at this
        rw [this] at e
        cases e
      | cons f ps => exact ⟨f, ps, rfl⟩
    obtain ⟨b2, r2, done2, e3, C2, mem2, top2⟩ := chain_ch A2 e2
    have e4 : chainS [] (S.reverse.map ng) = (chainS [] S.reverse).map ng := chainS_ng S.reverse []
    rw [e4] at e3
    obtain ⟨b', r', e5, eb, er⟩ : ∃ b' r', chainS [] S.reverse = b' :: r' ∧ b2 = ng b' ∧ r2 = r'.map ng := by
      cases h : chainS [] S.reverse with
      | nil => rw [h] at e3; cases e3
      | cons x y =>
        rw [h] at e3
        injection e3 with q1 q2
        exact ⟨x, y, rfl, q1.symm, q2.symm⟩
    subst eb er
    rw [e1, e5, List.tail_cons, List.tail_cons]
    have n1 := (List.nodup_cons.mp (srt_nodup C.srt))
    have n2 := (List.nodup_cons.mp (srt_nodup C2.srt))
    have n2' : r'.Nodup := by
      have := n2.2
      rw [List.Nodup, List.pairwise_map] at this
      exact this.imp fun z q => z (by rw [q])
    refine List.nodup_append.mpr ⟨(List.reverse_perm r).nodup_iff.mpr n1.2, (List.reverse_perm r').nodup_iff.mpr n2', fun s m t m' est => ?_⟩
    subst est
    have m := List.mem_reverse.mp m
    have m' := List.mem_reverse.mp m'
    have mS : s ∈ S := (mem s).mp (C.sub s (List.mem_cons_of_mem _ m))
    have ws := A.w s mS
    -- not the first place
    have nf : (b :: r).getLast? ≠ some s := fun z => by
      obtain ⟨x, ex, q⟩ := C.bot
      rw [z] at ex
      cases ex
      -- ng s is the greatest of the way back: its top
      have mt : ng s ∈ S.reverse.map ng := List.mem_map_of_mem (List.mem_reverse.mpr mS)
      have hb' : ng b' ∈ S.reverse.map ng := (mem2 (ng b')).mp (C2.sub _ List.mem_cons_self)
      obtain ⟨b0, mb0, eb0⟩ := List.mem_map.mp hb'
      have eb0 : b0 = b' := by rw [← ng_ng b0, eb0, ng_ng]
      subst eb0
      rcases top2 (ng s) mt with y | y
      · have : s = b0 := by rw [← ng_ng s, y, ng_ng]
        exact n2.1 (List.mem_map.mpr ⟨s, m', by rw [this]⟩)
      · have l1 := lt_ng.mp y
        rcases q b0 ((mem b0).mpr (List.mem_reverse.mp mb0)) with w | w
        · rw [w] at l1
          exact lt_ir l1
        · exact lt_no l1 w
    have nl : ((b' :: r').map ng).getLast? ≠ some (ng s) := fun z => by
      obtain ⟨x, ex, q⟩ := C2.bot
      have z : (ng b' :: r'.map ng).getLast? = some (ng s) := z
      rw [z] at ex
      cases ex
      have mb : b ∈ S := (mem b).mp (C.sub b List.mem_cons_self)
      rcases top s mS with y | y
      · rw [y] at m
        exact n1.1 m
      · rcases q (ng b) ((mem2 _).mpr (List.mem_map_of_mem (List.mem_reverse.mpr mb))) with w | w
        · have : b = s := by rw [← ng_ng b, w, ng_ng]
          rw [this] at y
          exact lt_ir y
        · exact lt_no (lt_ng.mp w) y
    obtain ⟨a, c, I⟩ := inner C s m nf
    have I := inn_mem I mem
    obtain ⟨a2, c2, I2⟩ := inner C2 (ng s) (List.mem_map_of_mem m') nl
    have I2 := inn_mem I2 mem2
    obtain ⟨α, mα, eα⟩ := List.mem_map.mp I2.ma
    subst eα
    have mα := List.mem_reverse.mp mα
    have lα := lt_ng.mp I2.la
    have q1 := I2.ea (ng a) (List.mem_map_of_mem (List.mem_reverse.mpr I.ma))
    rw [dt_ng] at q1
    have c1 : 0 < cr (wy a s) (wy s c) := by rw [wy_b]; exact Int.mul_pos ws I.tn
    have c3 : 0 ≤ cr (wy s c) (wy s α) := by
      rw [wy_a]
      exact Int.mul_nonneg (Int.le_of_lt ws) (I.ec α mα)
    have c4 := cr_trans1 I.la I.lc lα c1 c3
    rw [wy_b] at c4
    have c5 := pos_of ws c4
    have : dt α s a = - dt a s α := by
      unfold dt det3
      grind
    omega
/-! ### plates whose corners stand alone -/
structure PlateX (H : List Pt) : Prop extends PlateP H where
  nd : H.Nodup
  ext : ∀ s ∈ H, Ext H s
theorem hull_plateX {S T : List Pt} (hS : ∀ s ∈ S, GP s) (n : S ≠ []) (sT : T.Pairwise lt) (mT : ∀ t ∈ T, t ∈ S) (nT : S ≠ [] → T ≠ []) : PlateX (hullP T) := by
  have A : Asc T := ⟨fun t m => (hS t (mT t m)).1.w, sT⟩
  exact ⟨(hull_plate hS n sT mT nT).1, hull_nodup A, fun s m => (hull_ext A s m).sub (hull_sub A)⟩
instance : DecidableEq Pt := fun a b => decidable_of_iff (a.x = b.x ∧ a.y = b.y ∧ a.w = b.w) ⟨fun ⟨h1, h2, h3⟩ => by
  cases a
  cases b
  simp only at h1 h2 h3
  subst h1 h2 h3
  rfl, fun h => by
  subst h
  exact ⟨rfl, rfl, rfl⟩⟩
theorem prs_ne {L : List Pt} : L.Nodup → ∀ pr ∈ prs L, pr.1 ≠ pr.2 := by
  induction L with
  | nil => exact fun _ pr m => by cases m
  | cons a r ih =>
    cases r with
    | nil => exact fun _ pr m => by cases m
    | cons b r =>
      intro nd pr m
      obtain ⟨n1, n2⟩ := List.nodup_cons.mp nd
      rcases List.mem_cons.mp m with e | m
      · subst e
        intro z
        have z : a = b := z
        exact n1 (by rw [z]; exact List.mem_cons_self)
      · exact ih n2 pr m
theorem round_ne {H : List Pt} (nd : H.Nodup) (l : 2 ≤ H.length) : ∀ pr ∈ prs (H ++ H.take 1), pr.1 ≠ pr.2 := by
  obtain ⟨a, r, e⟩ : ∃ a r, H = a :: r := by
    cases H with
    | nil => simp at l
    | cons a r => exact ⟨a, r, rfl⟩
  have hr : r ≠ [] := fun z => by
    rw [e, z] at l
    simp at l
  obtain ⟨t, b, eb⟩ : ∃ t b, r = t ++ [b] := ⟨r.dropLast, r.getLast hr, (List.dropLast_concat_getLast hr).symm⟩
  intro pr m
  have e2 : H ++ H.take 1 = (a :: t) ++ b :: [a] := by
    rw [e, eb]
    simp
  rw [e2, prs_app] at m
  rcases List.mem_append.mp m with m | m
  · refine prs_ne ?_ pr m
    rw [e, eb] at nd
    exact nd
  · have m : pr ∈ [(b, a)] := m
    rw [List.mem_singleton] at m
    subst m
    intro z
    have z : b = a := z
    rw [e, eb, z] at nd
    exact (List.nodup_cons.mp nd).1 (List.mem_append_right _ List.mem_cons_self)
/-- on a side's line there are just its ends -/
theorem side_strict {H : List Pt} (X : PlateX H) (hF : ∀ s ∈ H, FP s) {p q r : Pt} (mp : p ∈ H) (mq : q ∈ H) (mr : r ∈ H) (pq : p ≠ q) (h : dt p q r = 0) : r = p ∨ r = q := by
  refine Classical.byContradiction fun z => ?_
  have rp : r ≠ p := fun e => z (.inl e)
  have rq : r ≠ q := fun e => z (.inr e)
  have d1 : dt p r q = 0 := by rw [dt_swap p q r, h]; rfl
  have d2 : dt q r p = 0 := by rw [dt_cyc p q r]; exact h
  have d3 : dt q p r = 0 := by rw [dt_swap q r p, d2]; rfl
  have d4 : dt r p q = 0 := by rw [← dt_cyc r p q]; exact h
  have d5 : dt r q p = 0 := by rw [dt_swap r p q, d4]; rfl
  have three : ∀ {x y : Pt}, x ∈ H → y ∈ H → x ≠ y → lt x y ∨ lt y x := fun {x y} mx my n => (fp_cmp (hF x mx) (hF y my)).elim (fun e => (n e).elim) id
  rcases three mp mq pq with a | a <;> rcases three mr mp rp with b | b <;> rcases three mr mq rq with c | c
  · exact X.ext p mp r mr q mq b a d4
  · exact X.ext p mp r mr q mq b a d4
  · exact X.ext r mr p mp q mq b c d1
  · exact X.ext q mq p mp r mr a c h
  · exact X.ext q mq r mr p mp c a d5
  · exact X.ext r mr q mq p mp c b d2
  · exact X.ext p mp q mq r mr a b d3
  · exact X.ext p mp q mq r mr a b d3
end Pg
set_option exponentiation.threshold 2000
/-! Pg21: drawn pools and plates; sides, heights, tops. -/
namespace Pg
open PySem PySem.Spec PyProof.Rows L2
/-- corners -/
structure CP (p : Pt) : Prop where
  f : FP p
  x : p.x.natAbs ≤ 54
  y : p.y.natAbs ≤ 54
  w : p.w ∣ 36
/-- places that are tried -/
structure SP (p : Pt) : Prop where
  f : FP p
  x : p.x.natAbs < 2 ^ 20
  y : p.y.natAbs < 2 ^ 20
  w : p.w.natAbs < 2 ^ 20
theorem CP.le {p : Pt} (h : CP p) : p.w ≤ 36 := Int.le_of_dvd (by decide) h.w
theorem CP.sp {p : Pt} (h : CP p) : SP p := by
  have := h.f.w
  have := h.x
  have := h.y
  have := h.le
  exact ⟨h.f, by omega, by omega, by omega⟩
/-! ### plates whose corners stand alone -/
/-! ### sides -/
/-! ### heights -/
def hN (A B : Int) (p : Pt) : Int := A * p.x + B * p.y
section
variable {K : PySem.W.Frag} {F : Fx} {δ : Se}
end
theorem sm_500 {x : Int} (h : x.natAbs < 2 ^ 140) : x.natAbs < 10 ^ 500 := Nat.lt_of_lt_of_le h (by decide +kernel)
end Pg
/-! Pg22: lists of alike data: what may be compared, what is one. -/
namespace Pg
open PySem PySem.Spec PyProof.Rows L2
theorem noMutA_map {α : Type} {f : α → PyData} (h : ∀ x, noMut (f x) = true) : ∀ l : List α, noMutA (l.map f) = true
  | [] => rfl
  | x :: r => by
    show (noMut (f x) && noMutA (r.map f)) = true
    rw [h x, noMutA_map h r]
    rfl
theorem plainAll_map {α : Type} {f : α → PyData} (h : ∀ x, (f x).plain = true) : ∀ l : List α, PyData.plainAll (l.map f) = true
  | [] => rfl
  | x :: r => by
    rw [List.map_cons, PyData.plainAll, h x, plainAll_map h r]
    rfl
theorem plain_tuple {α : Type} {f : α → PyData} (h : ∀ x, (f x).plain = true) (l : List α) : (PyData.tuple (l.map f)).plain = true := by
  rw [PyData.plain]
  exact plainAll_map h l
theorem shapedA_map {α : Type} {f : α → PyData} (h : ∀ x, (f x).canLay0 = true ∧ (f x).depth ≤ 10) : ∀ l : List α, PyData.canLayAll0 (l.map f) = true ∧ PyData.depthAll (l.map f) ≤ 10
  | [] => ⟨rfl, Nat.zero_le _⟩
  | x :: r => by
    obtain ⟨a1, a2⟩ := shapedA_map h r
    obtain ⟨b1, b2⟩ := h x
    refine ⟨?_, ?_⟩
    · show (PyData.canLay0 (f x) && PyData.canLayAll0 (r.map f)) = true
      rw [b1, a1]
      rfl
    · show max (PyData.depth (f x)) (PyData.depthAll (r.map f)) ≤ 10
      exact Nat.max_le.mpr ⟨b2, a2⟩
theorem shaped_lst {α : Type} {f : α → PyData} (h : ∀ x, (f x).canLay0 = true ∧ (f x).depth ≤ 10) (l : List α) : SeqAt.shaped (.list (l.map f)) = true := by
  obtain ⟨a1, a2⟩ := shapedA_map h l
  show (PyData.canLayAll0 (l.map f) && decide (PyData.depthAll (l.map f) + 1 ≤ 64)) = true
  rw [a1, Bool.true_and]
  exact decide_eq_true (by omega)
theorem shaped_tup {α : Type} {f : α → PyData} (h : ∀ x, (f x).canLay0 = true ∧ (f x).depth ≤ 10) (l : List α) : SeqAt.shaped (.tuple (l.map f)) = true := by
  obtain ⟨a1, a2⟩ := shapedA_map h l
  show (PyData.canLayAll0 (l.map f) && decide (PyData.depthAll (l.map f) + 1 ≤ 64)) = true
  rw [a1, Bool.true_and]
  exact decide_eq_true (by omega)
end Pg
/-! Pg23: dicts whose keys are tuples: looked into, stored into, walked, made by a comprehension. -/
namespace Pg
open PySem PySem.Spec PyProof.Rows L2

/-! ### keys -/
mutual
inductive KeyV (K : PySem.W.Frag) (H : Hp) : V → NestedKey → Prop
  | non : KeyV K H .non .none
  | int (i : Int) : KeyV K H (.int i) (.num i)
  | tup {p : Addr} {xs : List V} {ks : List NestedKey} : H p = some (.tup xs) → KeyVs K H xs ks → KeyV K H (.ref p) (.tup ks)
  | frz {p : Addr} {xs : List V} {ks : List NestedKey} : FrzT K p xs → KeyVs K H xs ks → KeyV K H (.ref p) (.tup ks)
inductive KeyVs (K : PySem.W.Frag) (H : Hp) : List V → List NestedKey → Prop
  | nil : KeyVs K H [] []
  | cons {v : V} {vs : List V} {k : NestedKey} {ks : List NestedKey} : KeyV K H v k → KeyVs K H vs ks → KeyVs K H (v :: vs) (k :: ks)
end
section
variable {av : Addr → Prop} {K : PySem.W.Frag} {H H' : Hp} {P : Program} {w : World} {h : Heap}
mutual
theorem Dt.keyV : ∀ {v : V} {d : PyData} {k : NestedKey}, Dt av K H v d → keyOf d = some k → KeyV K H v k
  | _, _, _, .non, e => by
    cases e
    exact .non
  | _, _, _, .int i, e => by
    cases e
    exact .int i
  | _, _, _, .bl b, e => by cases e
  | _, _, _, .str x, e => by cases e
  | _, _, _, .lst _ _, e => by cases e
  | _, _, _, .dct _ _ _ _, e => by cases e
  | _, _, _, .dcx _ _ _ _, e => by cases e
  | _, _, _, .obj _ _ _ _, e => by cases e
  | _, .tuple ds, k, .tup s t, e => by
    have e : (keysOf ds).map NestedKey.tup = some k := e
    obtain ⟨ks, h1, h2⟩ := Option.map_eq_some_iff.mp e
    subst h2
    exact s.elim (fun s => .tup s.2 (Dts.keyVs t h1)) fun f => .frz f (Dts.keyVs t h1)
theorem Dts.keyVs : ∀ {vs : List V} {ds : List PyData} {ks : List NestedKey}, Dts av K H vs ds → keysOf ds = some ks → KeyVs K H vs ks
  | _, _, _, .nil, e => by
    cases e
    exact .nil
  | _, d :: ds, ks, .cons a t, e => by
    have e : ((keyOf d).bind fun k => (keysOf ds).map (k :: ·)) = some ks := e
    obtain ⟨k, h1, h2⟩ := Option.bind_eq_some_iff.mp e
    obtain ⟨r, h3, h4⟩ := Option.map_eq_some_iff.mp h2
    subst h4
    exact .cons (Dt.keyV a h1) (Dts.keyVs t h3)
end
mutual
theorem keyOf_noTx : ∀ {d : PyData} {k : NestedKey}, keyOf d = some k → noTx k = true
  | .none, _, e => by
    cases e
    rfl
  | .int _, _, e => by
    cases e
    rfl
  | .bool _, _, e => by cases e
  | .str _, _, e => by cases e
  | .list _, _, e => by cases e
  | .dict _, _, e => by cases e
  | .tuple ds, k, e => by
    have e : (keysOf ds).map NestedKey.tup = some k := e
    obtain ⟨ks, h1, h2⟩ := Option.map_eq_some_iff.mp e
    subst h2
    exact keysOf_noTx h1
theorem keysOf_noTx : ∀ {ds : List PyData} {ks : List NestedKey}, keysOf ds = some ks → noTxA ks = true
  | [], _, e => by
    cases e
    rfl
  | d :: ds, ks, e => by
    have e : ((keyOf d).bind fun k => (keysOf ds).map (k :: ·)) = some ks := e
    obtain ⟨k, h1, h2⟩ := Option.bind_eq_some_iff.mp e
    obtain ⟨r, h3, h4⟩ := Option.map_eq_some_iff.mp h2
    subst h4
    exact Bool.and_eq_true_iff.mpr ⟨keyOf_noTx h1, keysOf_noTx h3⟩
end
mutual
theorem keyOf_inj : ∀ {c d : PyData} {k : NestedKey}, keyOf c = some k → keyOf d = some k → c = d
  | .none, d, _, e, f => by
    cases e
    cases d with
    | none => rfl
    | tuple ds =>
      have f : (keysOf ds).map NestedKey.tup = some .none := f
      obtain ⟨_, _, z⟩ := Option.map_eq_some_iff.mp f
      cases z
    | _ => cases f
  | .int i, d, _, e, f => by
    cases e
    cases d with
    | int j =>
      cases f
      rfl
    | tuple ds =>
      have f : (keysOf ds).map NestedKey.tup = some (.num i) := f
      obtain ⟨_, _, z⟩ := Option.map_eq_some_iff.mp f
      cases z
    | _ => cases f
  | .bool _, _, _, e, _ => by cases e
  | .str _, _, _, e, _ => by cases e
  | .list _, _, _, e, _ => by cases e
  | .dict _, _, _, e, _ => by cases e
  | .tuple cs, d, k, e, f => by
    have e : (keysOf cs).map NestedKey.tup = some k := e
    obtain ⟨ks, h1, h2⟩ := Option.map_eq_some_iff.mp e
    subst h2
    cases d with
    | tuple ds =>
      have f : (keysOf ds).map NestedKey.tup = some (.tup ks) := f
      obtain ⟨ls, g1, z⟩ := Option.map_eq_some_iff.mp f
      cases z
      rw [keysOf_inj h1 g1]
    | _ => cases f
theorem keysOf_inj : ∀ {cs ds : List PyData} {ks : List NestedKey}, keysOf cs = some ks → keysOf ds = some ks → cs = ds
  | [], ds, _, e, f => by
    cases e
    cases ds with
    | nil => rfl
    | cons d ds =>
      have f : ((keyOf d).bind fun k => (keysOf ds).map (k :: ·)) = some [] := f
      obtain ⟨k, _, h2⟩ := Option.bind_eq_some_iff.mp f
      obtain ⟨r, _, h4⟩ := Option.map_eq_some_iff.mp h2
      cases h4
  | c :: cs, ds, ks, e, f => by
    have e : ((keyOf c).bind fun k => (keysOf cs).map (k :: ·)) = some ks := e
    obtain ⟨k, h1, h2⟩ := Option.bind_eq_some_iff.mp e
    obtain ⟨r, h3, h4⟩ := Option.map_eq_some_iff.mp h2
    subst h4
    cases ds with
    | nil => cases f
    | cons d ds =>
      have f : ((keyOf d).bind fun k => (keysOf ds).map (k :: ·)) = some (k :: r) := f
      obtain ⟨k', g1, g2⟩ := Option.bind_eq_some_iff.mp f
      obtain ⟨r', g3, g4⟩ := Option.map_eq_some_iff.mp g2
      cases g4
      rw [keyOf_inj h1 g1, keysOf_inj h3 g3]
end
mutual
theorem KeyV.nested (ok : HOk P w H h) (kin : K.In h) : ∀ {v : V} {k : NestedKey} {u : Value}, KeyV K H v k → RelV v u → NestedIs h k u
  | _, _, _, .non, r => by
    cases r
    exact .none
  | _, _, _, .int i, r => by
    obtain ⟨t, rfl⟩ := r
    exact .int i t
  | _, _, _, .tup e t, r => by
    cases r
    obtain ⟨_, its, rv, o, h1, h2, n, h3⟩ := ok _ _ e
    exact .tup h1 h2 h3 (KeyVs.nested ok kin t rv)
  | _, _, _, .frz f t, r => by
    cases r
    obtain ⟨o, its, n, e, c, d, _, rv⟩ := f
    exact .tup (kin _ _ e) c d (KeyVs.nested ok kin t rv)
theorem KeyVs.nested (ok : HOk P w H h) (kin : K.In h) : ∀ {vs : List V} {ks : List NestedKey} {us : List Value}, KeyVs K H vs ks → Vals vs us → NestedAll h ks us
  | _, _, _, .nil, r => by
    cases r
    exact .nil
  | _, _, _, .cons a t, r => by
    cases r with
    | cons r1 r2 => exact .cons (KeyV.nested ok kin a r1) (KeyVs.nested ok kin t r2)
end
mutual
theorem KeyV.keep (k : ∀ b xs, H b = some (.tup xs) → H' b = some (.tup xs)) : ∀ {v : V} {c : NestedKey}, KeyV K H v c → KeyV K H' v c
  | _, _, .non => .non
  | _, _, .int i => .int i
  | _, _, .tup e t => .tup (k _ _ e) (KeyVs.keep k t)
  | _, _, .frz f t => .frz f (KeyVs.keep k t)
theorem KeyVs.keep (k : ∀ b xs, H b = some (.tup xs) → H' b = some (.tup xs)) : ∀ {vs : List V} {cs : List NestedKey}, KeyVs K H vs cs → KeyVs K H' vs cs
  | _, _, .nil => .nil
  | _, _, .cons a t => .cons (KeyV.keep k a) (KeyVs.keep k t)
end
/-- the keys' tuples stand -/
def EsK (K : PySem.W.Frag) (H : Hp) (es : Ents) : Prop := ∀ e ∈ es, KeyV K H (.ref e.2.1) e.1
theorem Dxs.esk : ∀ {es : Ents} {ds : List (PyData × PyData)}, Dxs av K H es ds → EsK K H es
  | _, _, .nil, e, m => by cases m
  | _, _, .cons a ka v t, e, m => by
    rcases List.mem_cons.mp m with z | m
    · rw [z]
      exact a.keyV ka
    · exact Dxs.esk t e m

/-! ### entries -/
def valX (es : Ents) (k : NestedKey) : Option V := (es.find? fun e => decide (e.1 = k)).map (·.2.2)
def putX (es : Ents) (k : NestedKey) (a : Addr) (v : V) : Ents := if (valX es k).isSome then es.map (fun e => if e.1 = k then (e.1, e.2.1, v) else e) else es ++ [(k, a, v)]
theorem valX_cons (e : NestedKey × Addr × V) (r : Ents) (k : NestedKey) : valX (e :: r) k = if e.1 = k then some e.2.2 else valX r k := by
  unfold valX
  rw [List.find?_cons]
  by_cases z : e.1 = k
  · rw [decide_eq_true z, if_pos z]
    rfl
  · rw [decide_eq_false z, if_neg z]
theorem atKey_cons (x : NestedKey × Addr × Value) (r : List (NestedKey × Addr × Value)) (k : NestedKey) : atKey (x :: r) k = if x.1 = k then some x.2 else atKey r k := by
  unfold atKey
  rw [List.find?_cons]
  by_cases z : x.1 = k
  · rw [decide_eq_true z, if_pos z]
    rfl
  · rw [decide_eq_false z, if_neg z]
theorem relX_val {k : NestedKey} : ∀ {es : Ents} {xs : List (NestedKey × Addr × Value)}, Paired RelX es xs → RelO (valX es k) ((atKey xs k).map (·.2))
  | _, _, .nil => trivial
  | _, _, .cons (a := e) (b := x) r t => by
    rw [valX_cons, atKey_cons]
    obtain ⟨r1, _, r3⟩ := r
    by_cases z : e.1 = k
    · rw [if_pos z, if_pos (by rw [← r1]; exact z)]
      exact r3
    · rw [if_neg z, if_neg (by rw [← r1]; exact z)]
      exact relX_val t
theorem relX_some {k : NestedKey} {es : Ents} {xs : List (NestedKey × Addr × Value)} (r : Paired RelX es xs) : (atKey xs k).isSome = (valX es k).isSome := by
  have h := (relX_val (k := k) r).isSome_eq
  rw [Option.isSome_map] at h
  exact h.symm
theorem relX_repl {k : NestedKey} {v : V} {u : Value} (rv : RelV v u) : ∀ {es : Ents} {xs : List (NestedKey × Addr × Value)}, Paired RelX es xs → Paired RelX (es.map fun e => if e.1 = k then (e.1, e.2.1, v) else e) (xs.map (putAt k u))
  | _, _, .nil => .nil
  | _, _, .cons (a := e) (b := x) r t => by
    refine .cons ?_ (relX_repl rv t)
    obtain ⟨r1, r2, r3⟩ := r
    unfold putAt
    dsimp only
    by_cases z : e.1 = k
    · rw [if_pos z, if_pos (by rw [← r1]; exact z)]
      exact ⟨r1, r2, rv⟩
    · rw [if_neg z, if_neg (by rw [← r1]; exact z)]
      exact ⟨r1, r2, r3⟩
theorem paired_snoc {α β : Type} {R : α → β → Prop} {a : α} {b : β} (r : R a b) : ∀ {l : List α} {m : List β}, Paired R l m → Paired R (l ++ [a]) (m ++ [b])
  | _, _, .nil => .cons r .nil
  | _, _, .cons q t => .cons q (paired_snoc r t)
theorem relX_put {k : NestedKey} {a : Addr} {v : V} {u : Value} {es : Ents} {xs : List (NestedKey × Addr × Value)} (r : Paired RelX es xs) (rv : RelV v u) : Paired RelX (putX es k a v) (storedH xs k a u) := by
  unfold putX storedH
  rw [relX_some r]
  split
  · exact relX_repl rv r
  · exact paired_snoc ⟨rfl, rfl, rv⟩ r
theorem putX_len (es : Ents) (k : NestedKey) (a : Addr) (v : V) : (putX es k a v).length ≤ es.length + 1 := by
  unfold putX
  split
  · rw [List.length_map]
    omega
  · rw [List.length_append]
    exact Nat.le_refl _
theorem putX_keys {es : Ents} {k : NestedKey} {a : Addr} {v : V} {q : NestedKey → Prop} (h : ∀ e ∈ es, q e.1) (hk : q k) : ∀ e ∈ putX es k a v, q e.1 := by
  intro e m
  unfold putX at m
  split at m
  · obtain ⟨c, mc, z⟩ := List.mem_map.mp m
    rw [← z]
    split
    · exact h c mc
    · exact h c mc
  · rcases List.mem_append.mp m with m | m
    · exact h e m
    · rw [List.mem_singleton.mp m]
      exact hk
theorem paired_mem {α β : Type} {R : α → β → Prop} : ∀ {l : List α} {m : List β}, Paired R l m → ∀ y ∈ m, ∃ x ∈ l, R x y
  | _, _, .nil, y, h => by cases h
  | _, _, .cons q t, y, h => by
    rcases List.mem_cons.mp h with z | h
    · rw [z]
      exact ⟨_, List.mem_cons_self, q⟩
    · obtain ⟨x, mx, r⟩ := paired_mem t y h
      exact ⟨x, List.mem_cons_of_mem _ mx, r⟩
theorem relX_keys : ∀ {es : Ents} {xs : List (NestedKey × Addr × Value)}, Paired RelX es xs → es.map (·.1) = xs.map (·.1)
  | _, _, .nil => rfl
  | _, _, .cons r t => by
    rw [List.map_cons, List.map_cons, r.1, relX_keys t]
theorem ent_eq (P : Program) (w : World) {es : Ents} {xs : List (NestedKey × Addr × Value)} (r : Paired RelX es xs) (n : ∀ e ∈ es, noTx e.1 = true ∧ e.1.depth ≤ 8) : xs.map entX = xs.map (entryOfKey (nestedKind P w)) := by
  refine List.map_congr_left fun x mx => ?_
  obtain ⟨e, me, q⟩ := paired_mem r x mx
  have := (n e me).1
  rw [q.1] at this
  show (⟨hash0 x.1, .ref x.2.1, x.2.2⟩ : DictEntry) = ⟨x.1.hash w, .ref x.2.1, x.2.2⟩
  rw [hash0_eq w _ this]
/-- the dict as the library tells it -/
theorem kx_of {D : Addr} {o : Obj} {es : Ents} (ok : HOk P w H h) (kin : K.In h) (e : H D = some (KeyO D o)) (oe : OEnt D o es) (ke : EsK K H es) :
    es.length ≤ sizeLine ∧ (D == sysModules) = false ∧ ∃ xs, Paired RelX es xs ∧ h.DictOfH (nestedKind P w) D xs := by
  obtain ⟨z, ns, nd, nt, xs, r, ex, as, ep, h1, h2⟩ := oe
  obtain ⟨hg, _⟩ := ok D _ e
  refine ⟨z, ns, xs, r, o, as, ep, hg, ex, h1, by rw [h2]; exact ent_eq P w r nt, fun x mx => ?_, by rw [← relX_keys r]; exact nd⟩
  obtain ⟨c, mc, q⟩ := paired_mem r x mx
  have k := (ke c mc).nested ok kin rfl
  rw [q.1, q.2.1] at k
  exact ⟨k, by rw [← q.1]; exact (nt c mc).2⟩
theorem kx_new {D : Addr} {es : Ents} {xs : List (NestedKey × Addr × Value)} (z : es.length ≤ sizeLine) (ns : (D == sysModules) = false) (nt : ∀ e ∈ es, noTx e.1 = true ∧ e.1.depth ≤ 8) (r : Paired RelX es xs) (d : h.DictOfH (nestedKind P w) D xs) :
    ∃ o, h.get? D = some o ∧ OEnt D o es := by
  obtain ⟨o, as, ep, hg, ex, h1, h2, _, h4⟩ := d
  exact ⟨o, hg, z, ns, by rw [relX_keys r]; exact h4, nt, xs, r, ex, as, ep, h1, by rw [h2]; exact (ent_eq P w r nt).symm⟩
end

/-! ### looked into, stored into -/
section
variable {X : Cx} {pins : List (Addr × Obj)} {σ : L2.St} {H : Hp} {s : Shared}
/-- y is a key, D such a dict; its entries -/
structure AtX (K : PySem.W.Frag) (H : Hp) (D : Addr) (y : V) (k : NestedKey) (es : Ents) : Prop where
  ex : ∃ a o, y = .ref a ∧ H D = some (KeyO D o) ∧ OEnt D o es ∧ EsK K H es ∧ KeyV K H (.ref a) k ∧ noTx k = true ∧ k.depth ≤ 8
theorem room9 (hu : X.A.units + 64 < cLine) : (nestedKind X.prog X.w).room X.A.in1 := by
  show X.A.in1.units + 8 < cLine
  have : X.A.in1.units = X.A.units + 1 := rfl
  omega
theorem room8 (hu : X.A.units + 64 < cLine) : (nestedKind X.prog X.w).room X.A := by
  show X.A.units + 8 < cLine
  omega
def tyKey (x : V) (H : Hp) : Prop := ∃ D o es, x = .ref D ∧ H D = some (KeyO D o) ∧ OEnt D o es
theorem ty_key : TyOk X "dict" tyKey := by
  intro pins σ H s x v I r ty
  obtain ⟨D, o, es, rfl, e, oe⟩ := ty
  cases r
  obtain ⟨hg, _⟩ := I.hok D _ e
  obtain ⟨_, _, _, _, _, _, ex, _⟩ := oe
  refine ⟨⟨o, hg, ex.1⟩, fun a e => ?_⟩
  cases e
  exact ⟨o, hg, ex.2.1⟩
/-- d.get(k), d.get(k, x) -/
def rGetX (K : PySem.W.Frag) : V → List V → Hp → VK → Prop := fun x xs H Q => ∃ D y k es, x = .ref D ∧ AtX K H D y k es ∧ ((xs = [y] ∧ Q ((valX es k).getD .non) H) ∨ ∃ z, xs = [y, z] ∧ Q ((valX es k).getD z) H)
theorem mt_getX (hu : X.A.units + 64 < cLine) : MtR X "dict.get" (rGetX X.K) := by
  intro pins s σ H x xs v us Q I rx rxs h
  obtain ⟨D, y, k, es, rfl, ⟨a, o, rfl, e, oe, ke, kv, _, dp⟩, h⟩ := h
  cases rx
  obtain ⟨z, ns, xs', r, dd⟩ := kx_of I.hok I.kIn e oe ke
  have kk : (nestedKind X.prog X.w).is s.heap k a := ⟨kv.nested I.hok I.kIn rfl, dp⟩
  have rr := relX_val (k := k) r
  rcases h with ⟨rfl, q⟩ | ⟨d, rfl, q⟩
  · obtain ⟨u, rfl, ru⟩ := vals1 rxs
    cases (show u = Value.ref a from ru)
    exact get_keyed (room9 hu) kk ns ⟨xs', dd, rfl⟩ ⟨_, H, I.tok _, by rw [valueAt_pairsH]; exact rr.getD rfl, q⟩
  · obtain ⟨u, u2, rfl, ru, ru2⟩ := vals2 rxs
    cases (show u = Value.ref a from ru)
    exact getOr_keyed (room9 hu) kk ns ⟨xs', dd, rfl⟩ ⟨_, H, I.tok _, by rw [valueAt_pairsH]; exact rr.getD ru2, q⟩
/-- the dict's object is replaced -/
theorem inv_putX {D : Addr} {o : Obj} {es : Ents} {xs : List (NestedKey × Addr × Value)} {k : NestedKey} {a : Addr} {v : V} {u : Value} {h' : Heap} {t' : Nat} (I : Inv X pins σ H s) (e : H D = some (KeyO D o)) (oe : OEnt D o es) (lt : es.length < sizeLine)
    (nt : noTx k = true ∧ k.depth ≤ 8) (r : Paired RelX es xs) (rv : RelV v u) (dd : h'.DictOfH (nestedKind X.prog X.w) D (storedH xs k a u)) (hs : Heap.SameBut D s.heap h') :
    ∃ o', OEnt D o' (putX es k a v) ∧ Inv X pins σ (upd H D (KeyO D o')) { s with heap := h', toks := t' } := by
  have hl := putX_len es k a v
  obtain ⟨o', hg, oe'⟩ := kx_new (by omega) oe.2.1 (putX_keys (q := fun k => noTx k = true ∧ k.depth ≤ 8) oe.2.2.2.1 nt) (relX_put r rv) dd
  exact ⟨o', oe', d_write I (by rw [e]; exact True.intro) hs ⟨o', hg⟩ (keyO_ok hg)⟩
/-- d[k] = v -/
def sDPutX (K : PySem.W.Frag) (td ty tv : TE) : TS := fun Z σ H => tv σ H fun v H1 => td σ H1 fun x H2 => ty σ H2 fun y H3 => ∃ D k es, x = .ref D ∧ AtX K H3 D y k es ∧ es.length < sizeLine ∧
  ∀ a o', y = .ref a → OEnt D o' (putX es k a v) → Z.nx σ (upd H3 D (KeyO D o'))
theorem ps_dputX {o i value : Expr} {pos pos' : Pos} {td ty tv : TE} (hu : X.A.units + 64 < cLine) (ho : PE X o td) (hi : PE X i ty) (hv : PE X value tv) (hs : swapsWith value (some (.Subscript o i pos')) pos.line X.env = pure false := by rfl) :
    PS X (.Assign [.Subscript o i pos'] value pos) (sDPutX X.K td ty tv) := by
  refine ⟨fun pins s σ H Z I h => ?_⟩
  refine wpAny_Assign_Subscript (thn (hv.run pins s σ H _ I h) fun r s1 ⟨v, H1, I1, rv, q1⟩ => thn (ho.run pins s1 σ H1 _ I1 q1) fun u s2 ⟨x, H2, I2, rx, q2⟩ => thn (hi.run pins s2 σ H2 _ I2 q2) fun iv s3 ⟨y, H3, I3, ry, D, k, es, ex, ⟨a, ob, ey, e, oe, ke, kv, nt, dp⟩, lt, q3⟩ => ?_) hs
  subst ex ey
  obtain rfl : u = Value.ref D := rx
  obtain rfl : iv = Value.ref a := ry
  obtain ⟨z, ns, xs, rr, dd⟩ := kx_of I3.hok I3.kIn e oe ke
  refine wpAny_setItem_heap (hsz := by rw [← Paired.length rr]; exact z) (room9 hu) ⟨kv.nested I3.hok I3.kIn rfl, dp⟩ dd fun h' dd' hs' => ?_
  obtain ⟨o', oe', I4⟩ := inv_putX (k := k) (a := a) (v := v) (t' := s3.toks + (nestedKind X.prog X.w).draws k) I3 e oe lt ⟨nt, dp⟩ rr rv dd' hs'
  exact ⟨σ, _, I4, q3 a o' rfl oe'⟩
end
section
variable {X : Cx} {K : PySem.W.Frag}
theorem mt_getXK (hK : X.K = K) (hu : X.A.units + 64 < cLine) : MtR X "dict.get" (rGetX K) := by
  subst hK
  exact mt_getX hu
end
end Pg
/-! Pg24: such dicts walked: keys, values, pairs; the list of the pairs; comprehensions of dicts. -/
namespace Pg
open PySem PySem.Spec PyProof.Rows L2

theorem paired_at {α β : Type} {R : α → β → Prop} : ∀ {l : List α} {m : List β} {i : Nat} {y : β}, Paired R l m → m[i]? = some y → ∃ x, l[i]? = some x ∧ R x y
  | _, _, i, y, .nil, h => by simp at h
  | _, _, 0, y, .cons q t, h => by
    cases h
    exact ⟨_, rfl, q⟩
  | _, _, i + 1, y, .cons q t, h => paired_at (i := i) t h
/-- the object's entries, one by one -/
theorem OEnt.raw {D : Addr} {o : Obj} {es : Ents} (oe : OEnt D o es) : ∃ as ep, o.ExactDict ∧ o.data = .dict as ep ∧ as.size = es.length ∧ (D == sysModules) = false ∧ es.length ≤ sizeLine ∧
    ∀ i (hi : i < as.size), ∃ e, es[i]? = some e ∧ as[i].key = .ref e.2.1 ∧ RelV e.2.2 as[i].val := by
  obtain ⟨z, ns, nd, nt, xs, r, ex, as, ep, h1, h2⟩ := oe
  have l1 : as.size = xs.length := by rw [← Array.length_toList, h2, List.length_map]
  refine ⟨as, ep, ex, h1, by rw [l1, Paired.length r], ns, z, fun i hi => ?_⟩
  have hx : i < xs.length := by omega
  have e1 : as.toList[i]? = some as[i] := by
    rw [Array.getElem?_toList]
    exact Array.getElem?_eq_getElem hi
  rw [h2, List.getElem?_map, List.getElem?_eq_getElem hx, Option.map_some] at e1
  have e2 := Option.some.inj e1
  obtain ⟨e, he, q⟩ := paired_at r (List.getElem?_eq_getElem hx)
  refine ⟨e, he, ?_, ?_⟩
  · rw [← e2]
    show Value.ref xs[i].2.1 = Value.ref e.2.1
    rw [q.2.1]
  · rw [← e2]
    exact q.2.2

def ItX (D : Addr) (o : Obj) (es : Ents) : It := ⟨fun i H => H D = some (KeyO D o) ∧ i < es.length, fun i H x H' => H' = H ∧ ∃ e, es[i]? = some e ∧ x = .ref e.2.1, fun i H => H D = some (KeyO D o) ∧ es.length ≤ i⟩
section
variable {P : Program} {w : World} {K : PySem.W.Frag} {tg : Expr} {D : Addr} {o : Obj} {es : Ents} {as : Array DictEntry} {ep : Nat}
theorem turn_keysX (it : Addr) (hod : o.data = .dict as ep) (ex : o.ExactDict) (sz : as.size = es.length) (en : ∀ i (hi : i < as.size), ∃ e, es[i]? = some e ∧ as[i].key = .ref e.2.1 ∧ RelV e.2.2 as[i].val) :
    Turn P w K tg (ItX D o es) [it] it (fun i h => h.IsKeyIter it D i as.size ep) where
  mem := by simp
  obj := fun i h st b hb => by
    have e : b = it := by simpa using hb
    subst e
    obtain ⟨oi, e, c, dd⟩ := st
    exact ⟨oi, e, fun v z => by rw [dd] at z; cases z⟩
  keep := fun i h h' st k => st.at fun oi e => k it (by simp) oi e
  item := by
    intro X hP hw hK hc i pins s σ H E I hf st hg
    subst hP hw hK
    obtain ⟨hd, hi⟩ := hg
    obtain ⟨f0, f1, f2, f3, f4, f5⟩ := hf it (by simp)
    obtain ⟨hgd, _⟩ := I.hok D _ hd
    have hi' : i < as.size := by omega
    obtain ⟨e, he, hk, _⟩ := en i hi'
    refine wpAny_pyNext_keys_item_raw st ⟨o, hgd, ex, hod⟩ hi' fun h' st' sb => ?_
    have I1 : Inv X pins σ H { s with heap := h' } := I.turned (t' := s.toks) (fun b ob hb z => (sb.2 b hb).trans z) f0 f1 f3 f4 f5
    obtain ⟨oi, q, c, dd⟩ := id st'
    exact ⟨_, rfl, go_of (s := { s with heap := h' }) q c dd (by decide) ⟨.ref e.2.1, H, I1, by rw [hk]; rfl, ⟨rfl, e, he, rfl⟩, st', fun b hb => (hf b hb).1⟩⟩
  done := by
    intro X hP hw hK hc i pins s σ H E I hf st hg
    subst hP hw hK
    obtain ⟨hd, hi⟩ := hg
    obtain ⟨f0, f1, f2, f3, f4, f5⟩ := hf it (by simp)
    obtain ⟨hgd, _⟩ := I.hok D _ hd
    exact wpAny_pyNext_keys_end_raw (I.ok.hd hc) st ⟨o, hgd, ex, hod⟩ (by omega) fun h' eb => ⟨rfl, I.turned (t' := s.toks) (fun b ob hb e => eb b ob hb e) f0 f1 f3 f4 f5⟩
  self := fun A i s Q E st h => wpAny_pyIter_keyiter st h
end
section
variable {X : Cx} {tg e : Expr} {td : TE} {apos cpos : Pos}
end

/-! ### list(d.items()) -/
section
variable {X : Cx} {e : Expr} {te : TE} {p apos cpos pos : Pos}
end
end Pg
/-! Pg25: {k: v for ..} with keys that are tuples. -/
namespace Pg
open PySem PySem.Spec PyProof.Rows L2

theorem dictSetX {X : Cx} {pins : List (Addr × Obj)} {σ : L2.St} {H : Hp} {s : Shared} {E : Value → Shared → Prop} {D : Addr} {es : Ents} {k : NestedKey} {y v : V} {u r : Value} {Q : Unit → Shared → Prop} (hu : X.A.units + 64 < cLine)
    (I : Inv X pins σ H s) (h0 : AtX X.K H D y k es) (lt : es.length < sizeLine) (ry : RelV y u) (rv : RelV v r)
    (h : ∀ a o' s', y = .ref a → OEnt D o' (putX es k a v) → Inv X pins σ (upd H D (KeyO D o')) s' → Q () s') : wpAny (model X.prog X.w) X.A (dictSet D u r) Q E s := by
  obtain ⟨a, o, rfl, e, oe, ke, kv, nt, dp⟩ := h0
  cases (show u = Value.ref a from ry)
  obtain ⟨z, ns, xs, rr, dd⟩ := kx_of I.hok I.kIn e oe ke
  refine wpAny_dictSet_heap (hsz := by rw [← Paired.length rr]; exact z) (room8 hu) ⟨kv.nested I.hok I.kIn rfl, dp⟩ dd fun h' dd' hs' => ?_
  obtain ⟨o', oe', I4⟩ := inv_putX (k := k) (a := a) (v := v) (t' := s.toks + (nestedKind X.prog X.w).draws k) I e oe lt ⟨nt, dp⟩ rr rv dd' hs'
  exact h a o' _ rfl oe' I4
/-- D: the new dict -/
def tDcX (K : PySem.W.Frag) (wi : TI) (g : TG) (tt : TT) (tk tv : TE) (vs : List Nat) : TE := fun σ H Q => wi σ H fun J H1 => ∀ D o0, H1 D = none → OEnt D o0 [] → ∃ W : Nat → Nat → Hp → Prop, (∃ m, W 0 m (upd H1 D (KeyO D o0))) ∧ ∀ i m H, W i m H →
  (J.stop i H ∧ Q (.ref D) H) ∨ (J.go i H ∧ ∃ Nx : Hp → Prop, (∀ H', Nx H' → ∃ m', m' < m ∧ W (i + 1) m' H') ∧ ∀ x H', J.yld i H x H' → g x (wipe σ vs) H' fun σ2 H2 => wipe σ2 vs = wipe σ vs ∧ tt σ2 H2 fun b H3 =>
    if b = true then tk σ2 H3 fun y H4 => tv σ2 H4 fun z H5 => ∃ k es, AtX K H5 D y k es ∧ es.length < sizeLine ∧ ∀ a o', y = .ref a → OEnt D o' (putX es k a z) → Nx (upd H5 D (KeyO D o')) else Nx H3)
section
variable {X : Cx}
/-- what the comprehension's block needs of its parts, whatever the frame it runs in -/
structure BlkD (X : Cx) (scope : Scope) (tg kx vx : Expr) (ifs : List Expr) (g : TG) (tt : TT) (tk tv : TE) : Prop where
  pg : ∀ (s : Shared) (H : Hp) (C : Addr) (cl : List (Str × Addr)) (fp : List Addr), PG (X.blk s H scope (compEnvC scope cl C X.env) fp) tg g
  pt : ∀ (s : Shared) (H : Hp) (C : Addr) (cl : List (Str × Addr)) (fp : List Addr), PTs (X.blk s H scope (compEnvC scope cl C X.env) fp) ifs tt
  pk : ∀ (s : Shared) (H : Hp) (C : Addr) (cl : List (Str × Addr)) (fp : List Addr), PE (X.blk s H scope (compEnvC scope cl C X.env) fp) kx tk
  pv : ∀ (s : Shared) (H : Hp) (C : Addr) (cl : List (Str × Addr)) (fp : List Addr), PE (X.blk s H scope (compEnvC scope cl C X.env) fp) vx tv
theorem dcX_core {pins : List (Addr × Obj)} {s : Shared} {σ : L2.St} {H : Hp} {Q : VK} {kx vx tg iter : Expr} {ifs : List Expr} {scope : Scope} {own : List (Str × Nat)} {pos pos' : Pos} {wi : TI} {g : TG} {tt : TT} {tk tv : TE} {use : Option (Value → Sem Unit)} {Qf : Value → Shared → Prop}
    (hu : X.A.units + 64 < cLine) (hc : X.calm = true) (hN : X.N.Nodup) (I : Inv X pins σ H s) (hi : PI X tg iter wi) (ok : BlkOk X.N X.env.scope scope own)
    (B : BlkD X scope tg kx vx ifs g tt tk tv) (hs : ∀ x, foldedSetIterable iter X.env x = pure x) (h : tDcX X.K wi g tt tk tv (own.map (·.2)) σ H Q)
    (fin : ∀ D' C s' m H', Inv X pins σ H' s' → Q (.ref D') H' → s'.heap.Ns C m → FpOk X pins H' C → compPost (model X.prog X.w) X.A X.xe use Qf (.ref D') C (.ok .next) s') :
    wpAny (model X.prog X.w) X.A (comprehension (.DictComp kx vx [⟨tg, iter, ifs, 0⟩] scope pos) scope X.env pos' newDict false (eval iter X.env) use) Qf X.xe s := by
  have cells : ∀ y ∈ scope.names, y.2 = .free → ∃ c, X.env.cells.lookup y.1 = some c := by
    intro y hy e
    cases ok.free y hy e with
    | inl k => exact I.ok.has _ (.inl k)
    | inr k => exact I.ok.has _ (.inr k)
  refine wpAny_comprehension_free (use := use) rfl hs (closure_ok cells) ok.kind (fun y hy e => by rw [ok.uniq y hy, e]) (thn (hi.run pins s σ H _ I h) fun xv s1 hx => thn hx fun itv s2 came => ?_)
  obtain ⟨it, fp, tn, J, H2, rfl, I2, T, st2, f2, q⟩ := came
  refine wpAny_newObj_type (newEnv_comp ?_)
  generalize eD : s2.heap.objs.size = D
  have nD : H2 D = none := I2.hok.fresh (Nat.le_of_eq eD)
  obtain ⟨o0, eo⟩ : ∃ o0 : Obj, o0 = { cls := .type "dict", data := .dict #[] } := ⟨_, rfl⟩
  have oe0 : OEnt D o0 [] := oent_empty (beq_eq_false_iff_ne.mpr (Ne.symm (Nat.ne_of_lt (by rw [← eD]; exact I2.big)))) (by rw [eo]; exact ⟨rfl, rfl, rfl⟩) (by rw [eo])
  obtain ⟨W, ⟨m0, w0⟩, turn⟩ := q D o0 nD oe0
  generalize e3 : ({ s2 with heap := s2.heap.push { cls := .type "dict", data := .dict #[] } } : Shared) = s3
  have h3 : s3.heap = s2.heap.push o0 := by rw [← e3, eo]
  have I3 : Inv X pins σ (upd H2 D (KeyO D o0)) s3 := by
    rw [← e3]
    refine I2.laid (t' := s2.toks) (fun b o e => Heap.get?_push_of_some _ e) (Nat.le_of_eq eD) (keyO_ok ?_)
    rw [← eD, eo]
    exact Heap.get?_push_size _ rfl
  have f3 : ∀ b ∈ fp, FpOk X pins (upd H2 D (KeyO D o0)) b ∧ b < s3.heap.objs.size := by
    intro b hb
    obtain ⟨o, e, _⟩ := T.obj _ _ st2 b hb
    have hlt : b < s2.heap.objs.size := Heap.lt_size e
    refine ⟨⟨?_, (f2 b hb).2⟩, by rw [h3, Heap.size_push]; exact Nat.lt_succ_of_lt hlt⟩
    rw [upd_ne (by rw [← eD]; exact Nat.ne_of_lt hlt)]
    exact (f2 b hb).1
  have st3 : tn 0 s3.heap := T.keep _ _ _ st2 fun b _ o e => by
    rw [h3]
    exact Heap.get?_push_of_some _ e
  have I4 := block_start I3 ok hN f3
  have pg := B.pg s3 (upd H2 D (KeyO D o0)) s3.heap.objs.size (cellsFrom (s3.heap.objs.size + 1) scope.names (cloFrom X.env.cells scope.names [])) fp
  have pt := B.pt s3 (upd H2 D (KeyO D o0)) s3.heap.objs.size (cellsFrom (s3.heap.objs.size + 1) scope.names (cloFrom X.env.cells scope.names [])) fp
  have pk := B.pk s3 (upd H2 D (KeyO D o0)) s3.heap.objs.size (cellsFrom (s3.heap.objs.size + 1) scope.names (cloFrom X.env.cells scope.names [])) fp
  have pv := B.pv s3 (upd H2 D (KeyO D o0)) s3.heap.objs.size (cellsFrom (s3.heap.objs.size + 1) scope.names (cloFrom X.env.cells scope.names [])) fp
  show codeAny _ _ (.compStart (.DictComp kx vx [⟨tg, iter, ifs, 0⟩] scope pos) 0 (.ref it) (.ref D) (compEnvC scope (cellsFrom (s3.heap.objs.size + 1) scope.names (cloFrom X.env.cells scope.names [])) s3.heap.objs.size X.env)) (compPost (model X.prog X.w) X.A X.xe use Qf (.ref D) s3.heap.objs.size) { s3 with heap := pushCells (s3.heap.push { cls := .type "dict", data := .dict #[] }) scope.names }
  have nfp : ∀ b ∈ fp, (upd H2 D (KeyO D o0)) b = none := fun b hb => (f3 b hb).1.1
  generalize ece : compEnvC scope (cellsFrom (s3.heap.objs.size + 1) scope.names (cloFrom X.env.cells scope.names [])) s3.heap.objs.size X.env = ce at I4 pg pt pk pv ⊢
  have cL : ce.locals = s3.heap.objs.size := by
    rw [← ece]
    rfl
  generalize upd H2 D (KeyO D o0) = H3 at I3 I4 pg pt pk pv w0 nfp f3
  generalize es4 : ({ s3 with heap := pushCells (s3.heap.push { cls := .type "dict", data := .dict #[] }) scope.names } : Shared) = s4 at I4 ⊢
  have st4 : tn 0 s4.heap := T.keep _ _ _ st3 fun b _ o e => by
    rw [← es4]
    exact pushCells_keeps _ _ _ _ (Heap.get?_push_of_some _ e)
  have still : ∀ {σ' : L2.St} {H' : Hp} {s' : Shared}, Inv (X.blk s3 H3 scope ce fp) [] σ' H' s' → (∀ b ∈ fp, H' b = none) → ∀ b ∈ fp, FpOk (X.blk s3 H3 scope ce fp) [] H' b := by
    intro σ' H' s' I' hn b hb
    exact ⟨hn b hb, (I'.ok.exf b hb).1, I'.ok.exfs b hb, .inl hb, fun x c e => (I'.ok.exf b hb).2 x c e, fun p hp => absurd (show p ∈ ([] : List (Addr × Obj)) ++ [] from hp) (by simp)⟩
  have loop : codeAny (model X.prog X.w) X.A (.compLoop (.DictComp kx vx [⟨tg, iter, ifs, 0⟩] scope pos) 0 (.ref it) (.ref D) ce) (compPost (model X.prog X.w) X.A X.xe use Qf (.ref D) s3.heap.objs.size) s4 := by
    refine compLoop_anyD (fun n s' => ∃ i H', Inv (X.blk s3 H3 scope ce fp) [] (wipe σ (own.map (·.2))) H' s' ∧ tn i s'.heap ∧ (∀ b ∈ fp, H' b = none) ∧ W i n H') ?_ m0 ⟨0, H3, I4, st4, nfp, w0⟩
    rintro n s5 ⟨i, H5, I5, st5, n5, w5⟩
    cases turn i n H5 w5 with
    | inl done =>
      have td := T.done (X.blk s3 H3 scope ce fp) rfl rfl rfl hc i [] s5 _ H5 (fun _ _ => False) I5 (still I5 n5) st5 done.1
      refine thnF td fun r s6 z => ?_
      obtain ⟨rfl, I6⟩ := z
      have I7 : Inv X pins σ H5 s6 := I3.call' (ch := fp) I6.os I6.base I6.hok I6.bare fun b hb => ⟨(f3 b hb).1.2.2.2.1, (f3 b hb).1.2.1, (f3 b hb).1.2.2.2.2.1, (f3 b hb).1.2.2.2.2.2⟩
      have nC : H5 s3.heap.objs.size = none := by
        have z : H5 ce.locals = none := I6.free
        rw [cL] at z
        exact z
      obtain ⟨m, hn, _⟩ := I6.loc
      have hn : s6.heap.Ns ce.locals m := hn
      rw [cL] at hn
      exact fin D s3.heap.objs.size s6 m H5 I7 done.2 hn (I3.fpOk (Nat.le_refl _) nC)
    | inr more =>
      obtain ⟨go, Nx, hNx, step⟩ := more
      have ti := T.item (X.blk s3 H3 scope ce fp) rfl rfl rfl hc i [] s5 _ H5 (fun _ _ => False) I5 (still I5 n5) st5 go
      refine thnF ti fun r s6 z => ?_
      obtain ⟨u, rfl, h6⟩ := z
      refine thnF h6 fun _ s7 z7 => ?_
      obtain ⟨x, H7, I7, r7, y7, st7, n7⟩ := z7
      have I7' := I7.pinned (still I7 n7) (T.obj _ _ st7)
      refine thnF (pg.run _ s7 _ H7 x u _ I7' r7 (step x H7 y7)) fun _ s8 z8 => ?_
      obtain ⟨σ8, H8, I8, hw8, q8⟩ := z8
      refine thnF (pt.run _ s8 σ8 H8 _ I8 q8) fun b s9 z9 => ?_
      obtain ⟨H9, I9, q9⟩ := z9
      have next : ∀ {s' : Shared} {H' : Hp}, Inv (X.blk s3 H3 scope ce fp) ([] ++ pinsAt fp s7.heap) σ8 H' s' → Nx H' → ∃ m, m < n ∧ ∃ i H', Inv (X.blk s3 H3 scope ce fp) [] (wipe σ (own.map (·.2))) H' s' ∧ tn i s'.heap ∧ (∀ b ∈ fp, H' b = none) ∧ W i m H' := by
        intro s' H' I' nx
        obtain ⟨m', hm, w'⟩ := hNx H' nx
        have pin' : ∀ b ∈ fp, ∀ o, s7.heap.get? b = some o → s'.heap.get? b = some o ∧ H' b = none := fun b hb o e =>
          let z := I'.pin (b, o) (List.mem_append_right _ (List.mem_append_right _ (mem_pinsAt hb e)))
          ⟨z.1, z.2.1⟩
        have hl : (wipe σ (own.map (·.2))).length = σ8.length := by rw [← hw8, wipe_length]
        refine ⟨m', hm, i + 1, H', (I'.unpinned (pins := [])).weak hl (fun j v e => ?_), T.keep _ _ _ st7 fun b hb o e => (pin' b hb o e).1, fun b hb => ?_, w'⟩
        · rw [← hw8] at e
          exact (wipe_some e).1
        · obtain ⟨o, e, _⟩ := T.obj _ _ st7 b hb
          exact (pin' b hb o e).2
      cases b with
      | false =>
        rw [if_neg Bool.false_ne_true] at q9 ⊢
        exact next I9 q9
      | true =>
        rw [if_pos rfl] at q9 ⊢
        refine thnF (pk.run _ s9 σ8 H9 _ I9 q9) fun z s10 z10 => ?_
        obtain ⟨yk, H10, I10, r10, q10⟩ := z10
        refine thnF (pv.run _ s10 σ8 H10 _ I10 q10) fun z2 s11 z11 => ?_
        obtain ⟨yv, H11, I11, r11, k, es, hat, lt, nx⟩ := z11
        exact dictSetX (X := X.blk s3 H3 scope ce fp) hu I11 hat lt r10 r11 fun a o' s12 ea oe I12 => next I12 (nx a o' ea oe)
  exact codeAny_compStart_dict loop (T.self X.A 0 _ _ _ st4 loop)
theorem pe_dcX {kx vx tg iter : Expr} {ifs : List Expr} {scope : Scope} {own : List (Str × Nat)} {pos : Pos} {wi : TI} {g : TG} {tt : TT} {tk tv : TE} (hu : X.A.units + 64 < cLine) (hc : X.calm = true) (hN : X.N.Nodup) (hi : PI X tg iter wi) (ok : BlkOk X.N X.env.scope scope own)
    (B : BlkD X scope tg kx vx ifs g tt tk tv) (hs : ∀ x, foldedSetIterable iter X.env x = pure x := by intro _; rfl) :
    PE X (.DictComp kx vx [⟨tg, iter, ifs, 0⟩] scope pos) (tDcX X.K wi g tt tk tv (own.map (·.2))) := by
  constructor
  intro pins s σ H Q I h
  rw [arm_eval_DictComp]
  refine dcX_core hu hc hN I hi ok B hs h fun D' C s' m H' I' q' hn f => ?_
  refine ⟨m, hn, fun h'' sb => ?_⟩
  obtain ⟨g0, g1, _, g3, g4, g5⟩ := f
  exact ⟨.ref D', H', I'.turned (t' := s'.toks) (fun b o hb e => (sb.2 b hb).trans e) g0 g1 g3 g4 g5, rfl, q'⟩
end
end Pg
/-! Pg26: dicts whose keys are tuples, as data; own ones; sorted. -/
namespace Pg
open PySem PySem.Spec PyProof.Rows L2

def lookD (kvs : List (PyData × PyData)) (k : NestedKey) : Option PyData := (kvs.find? fun q => decide (keyOf q.1 = some k)).map (·.2)
def putD (kvs : List (PyData × PyData)) (c : PyData) (k : NestedKey) (d : PyData) : List (PyData × PyData) :=
  if (lookD kvs k).isSome then kvs.map (fun q => if keyOf q.1 = some k then (q.1, d) else q) else kvs ++ [(c, d)]
def TK (kvs : List (PyData × PyData)) : Prop := ∀ q ∈ kvs, isT q.1 = true
theorem lookD_cons (q : PyData × PyData) (r : List (PyData × PyData)) (k : NestedKey) : lookD (q :: r) k = if keyOf q.1 = some k then some q.2 else lookD r k := by
  unfold lookD
  rw [List.find?_cons]
  by_cases z : keyOf q.1 = some k
  · rw [decide_eq_true z, if_pos z]
    rfl
  · rw [decide_eq_false z, if_neg z]
theorem putD_len (kvs : List (PyData × PyData)) (c : PyData) (k : NestedKey) (d : PyData) : (putD kvs c k d).length ≤ kvs.length + 1 := by
  unfold putD
  split
  · rw [List.length_map]
    omega
  · rw [List.length_append]
    exact Nat.le_refl _
section
variable {av : Addr → Prop} {K : PySem.W.Frag} {H : Hp}
theorem Dxs.length : ∀ {es : Ents} {kvs : List (PyData × PyData)}, Dxs av K H es kvs → es.length = kvs.length
  | _, _, .nil => rfl
  | _, _, .cons _ _ _ t => congrArg (· + 1) (Dxs.length t)
theorem Dxs.look {k : NestedKey} : ∀ {es : Ents} {kvs : List (PyData × PyData)}, Dxs av K H es kvs → (valX es k = none ∧ lookD kvs k = none) ∨ ∃ v d, valX es k = some v ∧ lookD kvs k = some d ∧ Dt av K H v d
  | _, _, .nil => .inl ⟨rfl, rfl⟩
  | _, _, .cons (k := j) (v := v) (d := d) a ka h t => by
    rw [valX_cons, lookD_cons, ka]
    by_cases z : j = k
    · rw [if_pos z, if_pos (by rw [z])]
      exact .inr ⟨v, d, rfl, rfl, h⟩
    · rw [if_neg z, if_neg (fun e => z (Option.some.inj e))]
      exact Dxs.look t
theorem Dxs.look_some {k : NestedKey} {es : Ents} {kvs : List (PyData × PyData)} (h : Dxs av K H es kvs) : (valX es k).isSome = (lookD kvs k).isSome := by
  rcases h.look (k := k) with ⟨e1, e2⟩ | ⟨v, d, e1, e2, _⟩
  · rw [e1, e2]
    rfl
  · rw [e1, e2]
    rfl
theorem Dxs.repl {k : NestedKey} {v : V} {d : PyData} (hv : Dt av K H v d) : ∀ {es : Ents} {kvs : List (PyData × PyData)}, Dxs av K H es kvs →
    Dxs av K H (es.map fun e => if e.1 = k then (e.1, e.2.1, v) else e) (kvs.map fun q => if keyOf q.1 = some k then (q.1, d) else q)
  | _, _, .nil => .nil
  | _, _, .cons (k := j) (a := a0) (v := v0) (c := c0) (d := d0) a ka h t => by
    rw [List.map_cons, List.map_cons]
    dsimp only
    rw [ka]
    by_cases z : j = k
    · rw [if_pos z, if_pos (by rw [z])]
      exact .cons a ka hv (Dxs.repl hv t)
    · rw [if_neg z, if_neg (fun e => z (Option.some.inj e))]
      exact .cons a ka h (Dxs.repl hv t)
theorem Dxs.snoc {k : NestedKey} {a : Addr} {v : V} {c d : PyData} (ha : Dt av K H (.ref a) c) (hk : keyOf c = some k) (hv : Dt av K H v d) : ∀ {es : Ents} {kvs : List (PyData × PyData)}, Dxs av K H es kvs → Dxs av K H (es ++ [(k, a, v)]) (kvs ++ [(c, d)])
  | _, _, .nil => .cons ha hk hv .nil
  | _, _, .cons b kb h t => .cons b kb h (Dxs.snoc ha hk hv t)
theorem Dxs.put {k : NestedKey} {a : Addr} {v : V} {c d : PyData} {es : Ents} {kvs : List (PyData × PyData)} (h : Dxs av K H es kvs) (ha : Dt av K H (.ref a) c) (hk : keyOf c = some k) (hv : Dt av K H v d) : Dxs av K H (putX es k a v) (putD kvs c k d) := by
  unfold putX putD
  rw [h.look_some]
  split
  · exact h.repl hv
  · exact h.snoc ha hk hv
theorem Dxs.tk : ∀ {es : Ents} {kvs : List (PyData × PyData)}, Dxs av K H es kvs → TK kvs
  | _, _, .nil, q, m => by cases m
  | _, _, .cons a e h t, q, m => by
    rcases List.mem_cons.mp m with z | m
    · rw [z]
      obtain ⟨xs, rfl⟩ := a.keyT e
      rfl
    · exact Dxs.tk t q m
theorem Dxs.get : ∀ {es : Ents} {kvs : List (PyData × PyData)} {i : Nat} {e : NestedKey × Addr × V}, Dxs av K H es kvs → es[i]? = some e → ∃ q, kvs[i]? = some q ∧ Dt av K H (.ref e.2.1) q.1 ∧ Dt av K H e.2.2 q.2
  | _, _, i, e, .nil, h => by simp at h
  | _, _, 0, e, .cons a _ h _, z => by
    cases z
    exact ⟨_, rfl, a, h⟩
  | _, _, i + 1, e, .cons _ _ _ t, z => Dxs.get (i := i) t z
/-- a dict all of whose keys are tuples -/
theorem Dt.dictX {v : V} {kvs : List (PyData × PyData)} (h : Dt av K H v (.dict kvs)) (t : TK kvs) : ∃ p o es, v = .ref p ∧ av p ∧ H p = some (KeyO p o) ∧ OEnt p o es ∧ Dxs av K H es kvs := by
  cases h with
  | dcx a s oe h => exact ⟨_, _, _, rfl, a, s, oe, h⟩
  | @dct p ks ds a n s h =>
    exfalso
    cases h with
    | nil => exact n rfl
    | @cons k _ _ _ _ _ _ =>
      have := t _ List.mem_cons_self
      cases k <;> cases this
  | obj a s c h =>
    have := t _ List.mem_cons_self
    cases this
theorem Dt.isRef {v : V} {d : PyData} (h : Dt av K H v d) (t : isT d = true) : ∃ a, v = .ref a := by
  cases h with
  | tup s t2 => exact ⟨_, rfl⟩
  | lst s _ => cases t
  | dct a n s _ => exact ⟨_, rfl⟩
  | dcx a s _ _ => exact ⟨_, rfl⟩
  | obj a s _ _ => exact ⟨_, rfl⟩
  | _ => cases t
end

/-! ### as data -/
/-- a tuple that may be a key -/
def KeyD (d : PyData) (k : NestedKey) : Prop := keyOf d = some k ∧ isT d = true ∧ k.depth ≤ 8
section
variable {K : PySem.W.Frag} {F : Fx} {O O1 O2 : Ow} {H H1 H2 : Hp} {σ : L2.St} {δ : Se} {i : Nat} {ta tb tc td ty tv te : TE} {P : PyData → Prop}
theorem Sts.atX {v : V} {p : Addr} {o : Obj} {es : Ents} {av : Addr → Prop} {c : PyData} {k : NestedKey} (hk : KeyD c k) (t : Dt av K H v c) (e : H p = some (KeyO p o)) (oe : OEnt p o es) (ke : EsK K H es) : AtX K H p v k es := by
  obtain ⟨a, rfl⟩ := t.isRef hk.2.1
  exact ⟨a, o, rfl, e, oe, ke, t.keyV hk.1, keyOf_noTx hk.1, hk.2.2⟩
/-- d.get(k), d.get(k, x) -/
theorem v_getX {t : TA} (h : EV K F δ td fun d => ∃ kvs, d = .dict kvs ∧ TK kvs ∧ EA K F δ t fun cs => ∃ c k, KeyD c k ∧ ((cs = [c] ∧ P ((lookD kvs k).getD .none)) ∨ ∃ z, cs = [c, z] ∧ P ((lookD kvs k).getD z))) : EV K F δ (tMG tyKey (rGetX K) td t) P := fun O H σ S Q q => by
  refine h O H σ S _ fun H1 x d k1 S1 t1 ⟨kvs, e, tk, h1⟩ => ?_
  subst e
  obtain ⟨D, o, es, rfl, c0, hp, oe, dx⟩ := t1.dictX tk
  refine ⟨⟨D, o, es, rfl, hp, oe⟩, h1 O H1 σ S1 _ fun H2 vs cs k2 S2 t2 ⟨c, k, hk, z⟩ => ?_⟩
  have st := k2.stp (O := O) S.bs.ok
  have hp2 := (st D _ c0 hp).2
  have dx2 := dx.stp st
  rcases z with ⟨e, p⟩ | ⟨z, e, p⟩
  · subst e
    obtain ⟨y, rfl, ty⟩ := dts_one t2
    refine ⟨D, y, k, es, rfl, Sts.atX hk ty hp2 oe dx2.esk, .inl ⟨rfl, ?_⟩⟩
    rcases dx2.look (k := k) with ⟨e1, e2⟩ | ⟨v, r, e1, e2, tv⟩
    · rw [e1]
      rw [e2] at p
      exact q H2 _ _ (k1.trans k2) S2 .non p
    · rw [e1]
      rw [e2] at p
      exact q H2 _ _ (k1.trans k2) S2 tv p
  · subst e
    obtain ⟨y, y2, rfl, ty, tz⟩ := dts_two t2
    refine ⟨D, y, k, es, rfl, Sts.atX hk ty hp2 oe dx2.esk, .inr ⟨y2, rfl, ?_⟩⟩
    rcases dx2.look (k := k) with ⟨e1, e2⟩ | ⟨v, r, e1, e2, tv⟩
    · rw [e1]
      rw [e2] at p
      exact q H2 _ _ (k1.trans k2) S2 tz p
    · rw [e1]
      rw [e2] at p
      exact q H2 _ _ (k1.trans k2) S2 tv p
/-! walks -/
/-! ### own ones -/
theorem Sts.addKey (S : Sts K F O H σ δ) {p : Addr} {o : Obj} (np : H p = none) (i : Nat) :
    Sts K F ((i, p) :: O) (upd H p (KeyO p o)) σ δ ∧ Stp F O H ((i, p) :: O) (upd H p (KeyO p o)) := by
  have off : ∀ j, (j, p) ∉ O := S.ow.off np
  have st : Stp F O H ((i, p) :: O) (upd H p (KeyO p o)) := fun b u c e => by
    have nb : b ≠ p := ne_of_none e np
    refine ⟨⟨c.1, fun j m => ?_⟩, by rw [upd_ne nb]; exact e⟩
    rcases List.mem_cons.mp m with z | z
    · exact nb (Prod.mk.inj z).2
    · exact c.2 j z
  have S2 := S.new (o := KeyO p o) np
  refine ⟨⟨S2.bs, ⟨?_, ?_⟩, S.len, fun j s e => ?_⟩, st⟩
  · rw [List.map_cons]
    refine List.nodup_cons.mpr ⟨fun m => ?_, S2.ow.n2⟩
    obtain ⟨⟨q1, q2⟩, hq, e⟩ := List.mem_map.mp m
    have e : q2 = p := e
    subst e
    exact off q1 hq
  · intro q m
    rcases List.mem_cons.mp m with z | z
    · subst z
      exact ⟨(S.bs.fresh np).1, _, upd_same, noTup_key⟩
    · exact S2.ow.st q z
  · have a := S.at_ j s e
    cases s with
    | no => trivial
    | dat d' =>
      obtain ⟨v', e1, t'⟩ := a
      exact ⟨v', e1, t'.stp st⟩
    | own ds =>
      obtain ⟨p', ys, e1, m, e2, t'⟩ := a
      exact ⟨p', ys, e1, List.mem_cons_of_mem _ m, by rw [upd_ne (ne_of_none e2 np)]; exact e2, t'.stp st⟩
    | ownd ds =>
      obtain ⟨p', o', ys, e1, m, e2, oe, t'⟩ := a
      exact ⟨p', o', ys, e1, List.mem_cons_of_mem _ m, by rw [upd_ne (ne_of_none e2 np)]; exact e2, oe, t'.stp st⟩
    | ins p' C0 dx0 es0 =>
      obtain ⟨e1, m, ys, e2, t'⟩ := a
      exact ⟨e1, List.mem_cons_of_mem _ m, ys, by rw [upd_ne (ne_of_none e2 np)]; exact e2, t'.stp st⟩
    | src => exact a
/-- the own object of slot i is replaced -/
theorem Sts.rewrite (S : Sts K F O H σ δ) {p : Addr} {o : HO} {s0 : Sl} (nt : NoTup o) (m : (i, p) ∈ O) (hl : i < δ.length) (st : Stp F O H O (upd H p o)) (new : SlOk K F O (upd H p o) i σ[i]? s0) : Sts K F O (upd H p o) σ (δ.set i s0) := by
  obtain ⟨h0, _⟩ := S.ow.st _ m
  have nmu : ¬ F.mu p := S.bs.ok.off _ (S.bs.ok.new _ h0)
  refine ⟨⟨S.bs.ok, fun b u n e => ?_, fun a c e => ?_⟩, ⟨S.ow.n2, fun q mq => ?_⟩, by rw [List.length_set]; exact S.len, fun j s e => ?_⟩
  · have nb : b ≠ p := fun z => by
      subst z
      rw [h0] at e
      cases e
    rw [upd_ne nb]
    exact S.bs.base b u n e
  · obtain ⟨l, m', t', ns, k1, k2⟩ := S.bs.src a c e
    have na : a ≠ p := fun z => nmu ⟨a, c, e, .inl z.symm⟩
    have nc : c ≠ p := fun z => nmu ⟨a, c, e, .inr z.symm⟩
    exact ⟨l, m', t', ns, by rw [upd_ne na]; exact k1, by rw [upd_ne nc]; exact k2⟩
  · obtain ⟨k1, ys, k2, k3⟩ := S.ow.st q mq
    refine ⟨k1, ?_⟩
    by_cases z : q.2 = p
    · rw [z]
      exact ⟨_, upd_same, nt⟩
    · exact ⟨ys, by rw [upd_ne z]; exact k2, k3⟩
  · by_cases hj : i = j
    · subst hj
      rw [List.getElem?_set_self hl] at e
      cases e
      exact new
    · rw [List.getElem?_set_ne hj] at e
      have a := S.at_ j s e
      have apart : ∀ {p' : Addr}, (j, p') ∈ O → p' ≠ p := fun {p'} m' z => by
        subst z
        have := ow_inj S.ow.n2 m' m rfl
        exact hj (Prod.mk.inj this).1.symm
      cases s with
      | no => trivial
      | dat d' =>
        obtain ⟨v', k1, t'⟩ := a
        exact ⟨v', k1, t'.stp st⟩
      | own ds' =>
        obtain ⟨p', ys, k1, m', k2, t'⟩ := a
        exact ⟨p', ys, k1, m', by rw [upd_ne (apart m')]; exact k2, t'.stp st⟩
      | ownd ds' =>
        obtain ⟨p', o', ys, k1, m', k2, oe, t'⟩ := a
        exact ⟨p', o', ys, k1, m', by rw [upd_ne (apart m')]; exact k2, oe, t'.stp st⟩
      | ins p' C0 dx0 es0 =>
        obtain ⟨k1, m', ys, k2, t'⟩ := a
        exact ⟨k1, m', ys, by rw [upd_ne (apart m')]; exact k2, t'.stp st⟩
      | src => exact a
theorem stp_own {p : Addr} {o : HO} (m : (i, p) ∈ O) : Stp F O H O (upd H p o) := fun b u c e => by
  have nb : b ≠ p := fun z => by
    subst z
    exact c.2 i m
  exact ⟨c, by rw [upd_ne nb]; exact e⟩
theorem Sts.releaseD (S : Sts K F O H σ δ) {kvs : List (PyData × PyData)} (h : δ[i]? = some (.ownd kvs)) : Sts K F (dropO O i) H σ (δ.set i (.dat (.dict kvs))) := by
  obtain ⟨p, o, es, e1, m, e2, oe, t2⟩ := S.at_ i _ h
  have hl : i < δ.length := (List.getElem?_eq_some_iff.mp h).1
  have cp : F.cur (dropO O i) p := by
    refine ⟨S.bs.ok.new _ (S.ow.st _ m).1, fun j mj => ?_⟩
    obtain ⟨m1, m2⟩ := mem_dropO.mp mj
    have := ow_inj S.ow.n2 m1 m rfl
    exact m2 (Prod.mk.inj this).1
  refine ⟨S.bs, S.ow.drop i, by rw [List.length_set]; exact S.len, fun j s e => ?_⟩
  by_cases hj : i = j
  · subst hj
    rw [List.getElem?_set_self hl] at e
    cases e
    exact ⟨.ref p, e1, .dcx cp e2 oe (t2.stp stp_drop)⟩
  · rw [List.getElem?_set_ne hj] at e
    have a := S.at_ j s e
    cases s with
    | no => trivial
    | dat d' =>
      obtain ⟨v', k1, t'⟩ := a
      exact ⟨v', k1, t'.stp stp_drop⟩
    | own ds' =>
      obtain ⟨p', ys, k1, m', k2, t'⟩ := a
      exact ⟨p', ys, k1, mem_dropO.mpr ⟨m', fun z => hj z.symm⟩, k2, t'.stp stp_drop⟩
    | ownd ds' =>
      obtain ⟨p', o', ys, k1, m', k2, oe', t'⟩ := a
      exact ⟨p', o', ys, k1, mem_dropO.mpr ⟨m', fun z => hj z.symm⟩, k2, oe', t'.stp stp_drop⟩
    | ins p' C0 dx0 es0 =>
      obtain ⟨k1, m', ys, k2, t'⟩ := a
      exact ⟨k1, mem_dropO.mpr ⟨m', fun z => hj z.symm⟩, ys, k2, t'.stp stp_drop⟩
    | src => exact a
variable {R : Po}
/-- x[k] = e, x own -/
theorem s_dput {kvs : List (PyData × PyData)} (h0 : δ[i]? = some (.ownd kvs)) (h : EV K F δ tv fun d => EV K F δ ty fun c => ∃ k, KeyD c k ∧ kvs.length < 1000000 ∧ R.N (δ.set i (.ownd (putD kvs c k d)))) :
    SV K F δ (sDPutX K (tVar i) ty tv) R := fun O H σ S D n r b c => by
  refine h O H σ S _ fun H1 v d k1 S1 t1 h1 => ?_
  obtain ⟨p, o, es, e1, m, e2, oe, dx⟩ := S1.at_ i _ h0
  refine ⟨.ref p, e1, h1 O H1 σ S1 _ fun H2 y c2 k2 S2 t2 ⟨k, hk, lt, nn⟩ => ?_⟩
  obtain ⟨p', o', es', f1, m', f2, oe', dx'⟩ := S2.at_ i _ h0
  rw [e1] at f1
  cases f1
  have hl : i < δ.length := (List.getElem?_eq_some_iff.mp h0).1
  refine ⟨p, k, es', rfl, Sts.atX hk t2 f2 oe' dx'.esk, Nat.lt_of_lt_of_le (by rw [dx'.length]; exact lt) (by decide), fun a o3 ea oe3 => ?_⟩
  subst ea
  have st : Stp F O H2 O (upd H2 p (KeyO p o3)) := stp_own m'
  refine n _ _ _ _ (((k1.trans k2).stp S.bs.ok).trans st) (S2.rewrite (s0 := .ownd (putD kvs c2 k d)) noTup_key m' hl st ⟨p, o3, _, e1, m', upd_same, oe3, ?_⟩) nn
  exact (dx'.put t2 hk.1 (t1.stp (k2.stp S.bs.ok))).stp st
/-- x.get(k, z), x own -/
theorem v_ogetX {kvs : List (PyData × PyData)} {t : TA} (h0 : δ[i]? = some (.ownd kvs)) (h : EA K F δ t fun cs => ∃ c k, KeyD c k ∧ ((cs = [c] ∧ P ((lookD kvs k).getD .none)) ∨ ∃ z, cs = [c, z] ∧ P ((lookD kvs k).getD z))) : EV K F δ (tMG tyKey (rGetX K) (tVar i) t) P := fun O H σ S Q q => by
  obtain ⟨D, o, es, e1, m, hp, oe, dx⟩ := S.at_ i _ h0
  refine ⟨.ref D, e1, ⟨D, o, es, rfl, hp, oe⟩, h O H σ S _ fun H2 vs cs k2 S2 t2 ⟨c, k, hk, z⟩ => ?_⟩
  obtain ⟨D', o', es', f1, m', hp2, oe2, dx2⟩ := S2.at_ i _ h0
  rw [e1] at f1
  cases f1
  rcases z with ⟨e, p⟩ | ⟨z, e, p⟩
  · subst e
    obtain ⟨y, rfl, ty⟩ := dts_one t2
    refine ⟨D, y, k, es', rfl, Sts.atX hk ty hp2 oe2 dx2.esk, .inl ⟨rfl, ?_⟩⟩
    rcases dx2.look (k := k) with ⟨e1, e2⟩ | ⟨v, r, e1, e2, tv⟩
    · rw [e1]
      rw [e2] at p
      exact q H2 _ _ k2 S2 .non p
    · rw [e1]
      rw [e2] at p
      exact q H2 _ _ k2 S2 tv p
  · subst e
    obtain ⟨y, y2, rfl, ty, tz⟩ := dts_two t2
    refine ⟨D, y, k, es', rfl, Sts.atX hk ty hp2 oe2 dx2.esk, .inr ⟨y2, rfl, ?_⟩⟩
    rcases dx2.look (k := k) with ⟨e1, e2⟩ | ⟨v, r, e1, e2, tv⟩
    · rw [e1]
      rw [e2] at p
      exact q H2 _ _ k2 S2 tz p
    · rw [e1]
      rw [e2] at p
      exact q H2 _ _ k2 S2 tv p
/-- an own dict is data from now on -/
theorem s_relD {kvs : List (PyData × PyData)} {t : TS} (h : δ[i]? = some (.ownd kvs)) (k : SV K F (δ.set i (.dat (.dict kvs))) t R) : SV K F δ t R := fun O H σ S D n r b c =>
  k _ H σ (S.releaseD h) D (fun O2 H2 σ2 δ2 s2 => n O2 H2 σ2 δ2 (stp_drop.trans s2)) r (fun O2 H2 σ2 δ2 s2 => b O2 H2 σ2 δ2 (stp_drop.trans s2)) fun O2 H2 σ2 δ2 s2 => c O2 H2 σ2 δ2 (stp_drop.trans s2)
/-! ### comprehensions of dicts: I i holds of what is made ahead of turn i -/
theorem v_dcX {wi : TI} {g : TG} {tt : TT} {vs : List Nat} {G : (List PyData → Prop) → Prop} (w : WiD K F δ wi G) (gw : GW g vs)
    (h : G fun ds => ∃ I : Nat → List (PyData × PyData) → Prop, I 0 [] ∧ (∀ i x acc, ds[i]? = some x → I i acc → GV K F (wipeS δ vs) g x fun δ2 => BV K F δ2 tt fun b =>
      (b = true → EV K F δ2 ty fun c => EV K F δ2 tv fun d => ∃ k, KeyD c k ∧ acc.length < 1000000 ∧ I (i + 1) (putD acc c k d)) ∧ (b = false → I (i + 1) acc)) ∧ ∀ acc, I ds.length acc → P (.dict acc)) :
    EV K F δ (tDcX K wi g tt ty tv vs) P := fun O H σ S Q q => by
  refine w.run O H σ _ _ S h fun H1 J ds k1 S1 ⟨I, h0, turn, fin⟩ walk D o0 nD oe0 => ?_
  obtain ⟨S2, st2⟩ := S1.addKey (o := o0) nD δ.length
  refine ⟨fun i m H2 => i + m = ds.length ∧ Kp F H1 H2 ∧ Sts K F ((δ.length, D) :: O) H2 σ δ ∧ ∃ acc o es, H2 D = some (KeyO D o) ∧ OEnt D o es ∧ Dxs (F.cur ((δ.length, D) :: O)) K H2 es acc ∧ I i acc,
    ⟨ds.length, by omega, .new nD, S2, [], o0, [], upd_same, oe0, .nil, h0⟩, ?_⟩
  rintro i m H2 ⟨em, k2, S3, acc, o, es, hD, oe, ta, hI⟩
  have s3 : Stp F O H1 ((δ.length, D) :: O) H2 := fun b u c e => by
    have nb : b ≠ D := ne_of_none e nD
    refine ⟨⟨c.1, fun j mj => ?_⟩, k2 b u (S.bs.ok.off b c.1) e⟩
    rcases List.mem_cons.mp mj with z | z
    · exact nb (Prod.mk.inj z).2
    · exact c.2 j z
  obtain ⟨w1, w2⟩ := walk _ H2 i s3 fun _ n => S3.fresh n
  have nmu : ¬ F.mu D := (S1.bs.fresh nD).2.1
  have nD0 : F.H0 D = none := (S1.bs.fresh nD).1
  by_cases hi : i < ds.length
  · obtain ⟨go, yl⟩ := w1 hi
    refine .inr ⟨go, fun H4 => Kp F H1 H4 ∧ Sts K F ((δ.length, D) :: O) H4 σ δ ∧ ∃ acc o es, H4 D = some (KeyO D o) ∧ OEnt D o es ∧ Dxs (F.cur ((δ.length, D) :: O)) K H4 es acc ∧ I (i + 1) acc, ?_, fun x H3 y => ?_⟩
    · rintro H4 ⟨k4, S4, r⟩
      exact ⟨m - 1, by omega, by omega, k4, S4, r⟩
    · obtain ⟨e3, d, e1, t1⟩ := yl x H3 y
      have S3 := S3.same e3
      have k2 := k2.trans (Kp.same (F := F) e3)
      have hD := e3 _ _ hD
      have ta := ta.stp ((Kp.same e3).stp (O := (δ.length, D) :: O) S.bs.ok)
      refine gw.run _ _ _ _ _ (fun σ5 H5 e5 q5 => ⟨e5.trans (wipe_wipe vs), q5⟩) (turn i d acc e1 hI _ _ _ x (S3.wipe vs) t1 _ fun σ5 δ5 S5 hb => ?_)
      refine hb _ _ σ5 S5 _ fun H6 b k6 S6 ⟨hb1, hb2⟩ => ?_
      have k16 := k2.trans k6
      have hD6 : H6 D = some (KeyO D o) := k6 _ _ nmu hD
      cases b with
      | false => exact ⟨k16, S3.kp k6 S6.bs.src, acc, o, es, hD6, oe, ta.stp (k6.stp S.bs.ok), hb2 rfl⟩
      | true =>
        refine hb1 rfl _ H6 σ5 S6 _ fun H7 y c k7 S7 t7 h7 => h7 _ H7 σ5 S7 _ fun H8 z d2 k8 S8 t8 ⟨k, hk, hl, hr⟩ => ?_
        have kk := (k6.trans k7).trans k8
        have hD8 : H8 D = some (KeyO D o) := k8 _ _ nmu (k7 _ _ nmu hD6)
        have ta8 := ta.stp (kk.stp S.bs.ok)
        have S9 := S3.kp kk S8.bs.src
        have t7' := t7.stp (k8.stp (O := (δ.length, D) :: O) S.bs.ok)
        refine ⟨k, es, Sts.atX hk t7' hD8 oe ta8.esk, Nat.lt_of_lt_of_le (by rw [ta8.length]; exact hl) (by decide), fun a o' ea oe' => ?_⟩
        subst ea
        have mD : (δ.length, D) ∈ (δ.length, D) :: O := List.mem_cons_self
        have grow : Stp F ((δ.length, D) :: O) H8 ((δ.length, D) :: O) (upd H8 D (KeyO D o')) := stp_own mD
        have S10 : Sts K F ((δ.length, D) :: O) (upd H8 D (KeyO D o')) σ δ := by
          refine ⟨⟨S.bs.ok, fun b u n e => ?_, fun a' c' e => ?_⟩, ⟨S9.ow.n2, fun q' mq => ?_⟩, S9.len, fun j s e => ?_⟩
          · have nb : b ≠ D := fun z => by
              subst z
              rw [nD0] at e
              cases e
            rw [upd_ne nb]
            exact S9.bs.base b u n e
          · obtain ⟨l, m', t', ns, g1, g2⟩ := S9.bs.src a' c' e
            have na : a' ≠ D := fun z => nmu ⟨a', c', e, .inl z.symm⟩
            have nc : c' ≠ D := fun z => nmu ⟨a', c', e, .inr z.symm⟩
            exact ⟨l, m', t', ns, by rw [upd_ne na]; exact g1, by rw [upd_ne nc]; exact g2⟩
          · obtain ⟨g1, ys, g2, g3⟩ := S9.ow.st q' mq
            refine ⟨g1, ?_⟩
            by_cases z : q'.2 = D
            · rw [z]
              exact ⟨_, upd_same, noTup_key⟩
            · exact ⟨ys, by rw [upd_ne z]; exact g2, g3⟩
          · have hj : j < δ.length := (List.getElem?_eq_some_iff.mp e).1
            have apart : ∀ {p' : Addr}, (j, p') ∈ (δ.length, D) :: O → p' ≠ D := fun {p'} m' z => by
              rcases List.mem_cons.mp m' with z2 | z2
              · have := (Prod.mk.inj z2).1
                omega
              · subst z
                exact S1.ow.off nD j z2
            have a := S9.at_ j s e
            cases s with
            | no => trivial
            | dat d' =>
              obtain ⟨v', g1, t'⟩ := a
              exact ⟨v', g1, t'.stp grow⟩
            | own ds' =>
              obtain ⟨p', ys, g1, m', g2, t'⟩ := a
              exact ⟨p', ys, g1, m', by rw [upd_ne (apart m')]; exact g2, t'.stp grow⟩
            | ownd ds' =>
              obtain ⟨p', o'', ys, g1, m', g2, oe'', t'⟩ := a
              exact ⟨p', o'', ys, g1, m', by rw [upd_ne (apart m')]; exact g2, oe'', t'.stp grow⟩
            | ins p' C0 dx0 es0 =>
              obtain ⟨g1, m', ys, g2, t'⟩ := a
              exact ⟨g1, m', ys, by rw [upd_ne (apart m')]; exact g2, t'.stp grow⟩
            | src => exact a
        refine ⟨fun b u n e => ?_, S10, putD acc c k d2, o', _, upd_same, oe', (ta8.put t7' hk.1 t8).stp grow, hr⟩
        rw [upd_ne (ne_of_none e nD)]
        exact k8 b u n (k7 b u n (k16 b u n e))
  · have hS : Sts K F O H2 σ δ := S1.kp k2 S3.bs.src
    refine .inl ⟨w2 (by omega), q H2 _ _ (k1.trans k2) hS (.dcx (S1.fresh nD) hD oe (ta.keep fun b c u e => ⟨⟨c.1, fun j mj => c.2 j (List.mem_cons_of_mem _ mj)⟩, e⟩)) (fin acc (by rwa [show i = ds.length by omega] at hI))⟩
end
/-! ### sorted -/
def rSortD (K : PySem.W.Frag) : List V → Hp → VK → Prop := fun xs H Q => ∃ (av : Addr → Prop) (p : Addr) (ys : List V) (ds : List PyData), xs = [.ref p] ∧ SqL K H p ys ∧ Dts av K H ys ds ∧ PySem.W.AllAlike ds ∧ PySem.W.Sortable ds ∧ noObA ds = true ∧ (∀ d ∈ ds, d.depth ≤ 32) ∧
  ∀ zs, Dts av K H zs (ds.mergeSort (PySem.W.dataLe false id)) → ∀ q, H q = none → Q (.ref q) (upd H q (.lst zs))
def RDt (av : Addr → Prop) (K : PySem.W.Frag) (H : Hp) (v : Value) (d : PyData) : Prop := ∃ x, RelV x v ∧ Dt av K H x d
section
variable {K : PySem.W.Frag} {av : Addr → Prop} {H : Hp}
theorem each_of : ∀ {ys : List V} {vs : List Value} {ds : List PyData}, Vals ys vs → Dts av K H ys ds → PySem.W.EachIs (RDt av K H) vs ds
  | _, _, _, .nil, t => by
    cases t
    exact .nil
  | _, _, _, .cons r rs, t => by
    cases t with
    | cons a t => exact .cons ⟨_, r, a⟩ (each_of rs t)
theorem of_each : ∀ {vs : List Value} {ds : List PyData}, PySem.W.EachIs (RDt av K H) vs ds → ∃ zs, Vals zs vs ∧ Dts av K H zs ds
  | _, _, .nil => ⟨[], .nil, .nil⟩
  | _, _, .cons ⟨x, r, a⟩ t => by
    obtain ⟨zs, r2, a2⟩ := of_each t
    exact ⟨x :: zs, .cons r r2, .cons a a2⟩
theorem each_reads {X : Cx} {pins : List (Addr × Obj)} {σ : L2.St} {s : Shared} (I : Inv X pins σ H s) : ∀ {vs : List Value} {ds : List PyData}, PySem.W.EachIs (RDt av X.K H) vs ds → noObA ds = true → PySem.W.EachIs (fun v b => ∃ as, Reads s.heap v (id b) as) vs ds
  | _, _, .nil, _ => .nil
  | _, _, .cons ⟨x, r, a⟩ t, nb => by
    have nb := Bool.and_eq_true_iff.mp nb
    obtain ⟨as, rd, _⟩ := a.reads I _ r nb.1
    exact .cons ⟨as, rd⟩ (each_reads I t nb.2)
end
theorem cr_sortD {X : Cx} (hu : X.A.units + 64 < cLine) : CallR X (.builtin "sorted") (rSortD X.K) := by
  intro pins s σ H xs us Q I r h
  obtain ⟨av, p, ys, ds, rfl, hs, t, al, so, nb, dp, q⟩ := h
  obtain ⟨its, rv, hl, hz⟩ := I.list hs
  obtain ⟨u, rfl, ru⟩ := vals1 r
  obtain rfl : u = Value.ref p := ru
  have e0 := each_of rv t
  have l0 : ds.length ≤ sizeLine := by rw [← t.length]; exact hz
  have ei : ds.map id = ds := List.map_id _
  refine PySem.W.sorted_data (enc := id) (bs := ds) hl.isList e0 (each_reads I e0 nb) (by rw [ei]; exact al) (by rw [ei]; exact so) l0 (fun b m => ?_) fun out hlen eo => ?_
  · have := dp b m
    show X.A.units + 2 + b.depth < cLine
    omega
  · obtain ⟨zs, rz, tz⟩ := of_each eo
    obtain ⟨n, hn⟩ := PyProof.Rows.sortedAll_at s.heap its out.toArray
    refine ⟨.ref (s.heap.objs.size + 1), upd H (s.heap.objs.size + 1) (.lst zs), I.laid (t' := s.toks) (fun b ob e => PyProof.Rows.sortedAll_old e) (Nat.le_succ _) ⟨?_, out, n, rz, hn⟩, rfl, q zs tz _ (I.hok.fresh (Nat.le_succ _))⟩
    rw [rz.length, hlen]
    exact l0
theorem cd_sortD {K : PySem.W.Frag} {F : Fx} : CaD K F (rSortD K) (fun ds P => ∃ xs, ds = [.list xs] ∧ PySem.W.AllAlike xs ∧ PySem.W.Sortable xs ∧ noObA xs = true ∧ (∀ d ∈ xs, d.depth ≤ 32) ∧ P (.list (xs.mergeSort (PySem.W.dataLe false id)))) :=
  ⟨fun O H σ δ vs ds P Q S t ⟨xs, e, al, so, nb, dp, p⟩ q => by
    subst e
    obtain ⟨v, rfl, h⟩ := dts_one t
    cases h with
    | lst s t =>
      refine ⟨F.cur O, _, _, xs, rfl, s.sq, t, al, so, nb, dp, fun zs tz l nl => ?_⟩
      exact q _ _ _ (.new nl) (S.new nl) (.lst (.of (S.fresh nl) upd_same) (tz.stp ((Kp.new nl).stp S.bs.ok))) p⟩
end Pg
/-! Pg27: own lists popped, looked at; told lists that are new; comprehensions of dicts by functions. -/
namespace Pg
open PySem PySem.Spec PyProof.Rows L2
section
variable {X : Cx} {T id : String} {name : Str} {r : V → List V → Hp → VK → Prop} {o e : Expr} {es : List Expr} {to : TE} {t : TA} {apos cpos : Pos}
end
section
variable {X : Cx} {k : Nat} {x : Str} {ps : List Str} {sp : Sp} {p pos : Pos}
end
section
variable {av : Addr → Prop} {K : PySem.W.Frag} {H : Hp}
/-- tuples alone -/
def AtT (H : Hp) (b : Addr) : Prop := ∃ xs, H b = some (.tup xs)
mutual
theorem Dt.tups : ∀ {v : V} {d : PyData}, Dt av K H v d → noMut d = true → Dt (fun b => av b ∧ AtT H b) K H v d
  | _, _, .non, _ => .non
  | _, _, .bl b, _ => .bl b
  | _, _, .int i, _ => .int i
  | _, _, .str x, _ => .str x
  | _, _, .lst s t, h => by cases h
  | _, _, .dct a n s t, h => by cases h
  | _, _, .dcx a s c t, h => by cases h
  | _, _, .obj a s c t, h => by cases h
  | _, _, .tup s t, h => .tup (s.imp (fun s => ⟨⟨s.1, _, s.2⟩, s.2⟩) id) (Dts.tups t h)
theorem Dts.tups : ∀ {vs : List V} {ds : List PyData}, Dts av K H vs ds → noMutA ds = true → Dts (fun b => av b ∧ AtT H b) K H vs ds
  | _, _, .nil, _ => .nil
  | _, _, .cons a t, h => by
    have h2 := Bool.and_eq_true_iff.mp h
    exact .cons (Dt.tups a h2.1) (Dts.tups t h2.2)
end
end
section
variable {K : PySem.W.Frag} {F : Fx} {O O1 O2 : Ow} {H H1 H2 : Hp} {σ : L2.St} {δ : Se} {i j : Nat} {ta tb tc td ty tv te tk : TE} {P : PyData → Prop} {R : Po}
theorem OwOk.apart (W : OwOk F O H) {b : Addr} (a : AtT H b) (l : Nat) : (l, b) ∉ O := fun m => by
  obtain ⟨_, o, e, nt⟩ := W.st _ m
  obtain ⟨xs, z⟩ := a
  have e : H b = some o := e
  rw [z] at e
  cases e
  exact nt xs rfl
/-- data without lists and dicts hold no own thing -/
theorem Sts.noOwn (S : Sts K F O H σ δ) {av : Addr → Prop} {v : V} {d : PyData} (t : Dt av K H v d) (a : ∀ b, av b → F.al b) (h : noMut d = true) : Dt (F.cur O) K H v d :=
  (t.tups h).mono fun b z => ⟨a b z.1, fun l => S.ow.apart z.2 l⟩
/-- an own list is looked at, and what comes of it holds no list -/
theorem v_lookN {ds : List PyData} {Q : PyData → Prop} (h0 : δ[i]? = some (.own ds)) (h : EV K F (δ.set i (.dat (.list ds))) te fun d => noMut d = true ∧ Q d) : EV K F δ te Q := fun O H σ S R q =>
  h _ H σ (S.release h0) R fun H' v d k S' t ⟨a, pq⟩ =>
    have S2 := S.kp k S'.bs.src
    q H' v d k S2 (S2.noOwn t (fun b z => z.1) a) pq
end
end Pg
/-! Pg28: lists or tuples walked; told lists that are new, drawn; dicts made by functions; try with a rest in it. -/
namespace Pg
open PySem PySem.Spec PyProof.Rows L2
/-! ### what is walked is a list or a tuple -/
def iLT (K : PySem.W.Frag) (t : TE) : TI := fun σ H R => t σ H fun x H1 => (∃ p xs, x = .ref p ∧ SqL K H1 p xs ∧ R (Itl K p) H1) ∨ ∃ p xs, x = .ref p ∧ SqT K H1 p xs ∧ R (Itt K p) H1
theorem pi_lt {X : Cx} {tg e : Expr} {t : TE} (he : PE X e t) : PI X tg e (iLT X.K t) := by
  refine ⟨fun pins s σ H R I h => ?_⟩
  refine thn (he.run pins s σ H _ I h) fun u s1 ⟨x, H1, I1, rx, q⟩ => ?_
  rcases q with ⟨p, xs, rfl, hs, q⟩ | ⟨p, xs, rfl, hs, q⟩
  · cases rx
    obtain ⟨its, rv, z, hz⟩ := I1.list hs
    exact wpAny_pyIter_list z.isList (pi_one (tk := s1.toks) I1 _ (turn_list p _) ⟨_, Heap.get?_push_size _ rfl, rfl, rfl⟩ q)
  · cases rx
    obtain ⟨its, rv, z, hz⟩ := I1.tuple hs
    exact wpAny_pyIter_tuple (show s1.heap.IsTuple p its.toArray from z) (pi_one (tk := s1.toks) I1 _ (turn_tuple p _) ⟨_, Heap.get?_push_size _ rfl, rfl, rfl⟩ q)
section
variable {K : PySem.W.Frag} {F : Fx} {O O1 O2 : Ow} {H H1 H2 : Hp} {σ : L2.St} {δ : Se} {i j l : Nat} {ta tb tc td ty tv te tk : TE} {P : PyData → Prop} {R : Po} {p : Addr}
theorem w_lt {tl : TE} : WiD K F δ (iLT K tl) (fun M => EV K F δ tl fun d => ∃ ds, (d = .list ds ∨ d = .tuple ds) ∧ M ds) :=
  ⟨fun M M' m h => h.mono fun d ⟨ds, e, z⟩ => ⟨ds, e, m ds z⟩, fun O H σ M R S h k => h O H σ S _ fun H1 v d k1 S1 t1 ⟨ds, e, m⟩ => by
    rcases e with e | e
    · subst e
      cases t1 with
      | lst s t =>
        refine .inl ⟨_, _, rfl, s.sq, k H1 _ ds k1 S1 m fun O2 H2 i s2 fr => ?_⟩
        have q := s.keep (av' := F.cur O2) (H' := H2) fun c o e => s2 _ o c e
        have t2 := t.stp s2
        refine ⟨fun hi => ?_, fun hi => ⟨_, q.sq, by rw [t.length]; exact hi⟩⟩
        have hv := List.getElem?_eq_getElem (show i < _ by rw [t.length]; exact hi)
        refine ⟨⟨_, _, q.sq, hv⟩, fun x H3 y => ?_⟩
        obtain ⟨y1, y2⟩ := y
        subst y1
        obtain ⟨d, e1, t3⟩ := t2.get (y2 _ q.sq)
        exact ⟨fun _ _ h => h, d, e1, t3⟩
    · subst e
      cases t1 with
      | tup s t =>
        refine .inr ⟨_, _, rfl, s.sq, k H1 _ ds k1 S1 m fun O2 H2 i s2 fr => ?_⟩
        have q := s.keep (av' := F.cur O2) (H' := H2) fun c o e => s2 _ o c e
        have t2 := t.stp s2
        refine ⟨fun hi => ?_, fun hi => ⟨_, q.sq, by rw [t.length]; exact hi⟩⟩
        have hv := List.getElem?_eq_getElem (show i < _ by rw [t.length]; exact hi)
        refine ⟨⟨_, _, q.sq, hv⟩, fun x H3 y => ?_⟩
        obtain ⟨y1, y2⟩ := y
        subst y1
        obtain ⟨d, e1, t3⟩ := t2.get (y2 _ q.sq)
        exact ⟨fun _ _ h => h, d, e1, t3⟩⟩
/-! ### told lists that are new -/
/-! ### dicts made by functions -/
def putO (acc : List (PyData × PyData)) (c d : PyData) : List (PyData × PyData) := putD acc c ((keyOf c).getD .none) d
def dctD (fk fv : PyData → PyData) (ds : List PyData) : List (PyData × PyData) := ds.foldl (fun acc x => putO acc (fk x) (fv x)) []
theorem dctD_snoc {fk fv : PyData → PyData} {ds : List PyData} {x : PyData} : dctD fk fv (ds ++ [x]) = putO (dctD fk fv ds) (fk x) (fv x) := by
  unfold dctD
  rw [List.foldl_append]
  rfl
theorem dctD_len {fk fv : PyData → PyData} (ds : List PyData) : (dctD fk fv ds).length ≤ ds.length := by
  have : ∀ (ds : List PyData) (acc : List (PyData × PyData)), (ds.foldl (fun acc x => putO acc (fk x) (fv x)) acc).length ≤ acc.length + ds.length := by
    intro ds
    induction ds with
    | nil =>
      intro acc
      exact Nat.le_refl _
    | cons x r ih =>
      intro acc
      have h1 := ih (putO acc (fk x) (fv x))
      have h2 := putD_len acc (fk x) ((keyOf (fk x)).getD .none) (fv x)
      rw [List.length_cons]
      have h2 : (putO acc (fk x) (fv x)).length ≤ acc.length + 1 := h2
      exact Nat.le_trans h1 (by omega)
  have := this ds []
  rwa [List.length_nil, Nat.zero_add] at this
theorem take_upA {α : Type} {S : List α} {i : Nat} {p : α} (h : S[i]? = some p) : S.take (i + 1) = S.take i ++ [p] := take_up h
theorem v_dmapG {g : TG} {vs : List Nat} {wi : TI} {G : (List PyData → Prop) → Prop} {PD : PyData → Prop} (w : WiD K F δ wi G) (gw : GW g vs) (fk fv : PyData → PyData) (h : G fun ds => ds.length ≤ 900000 ∧
      (∀ x, x ∈ ds → GV K F (wipeS δ vs) g x fun δ2 => EV K F δ2 ty fun c => EV K F δ2 tv fun d => c = fk x ∧ d = fv x ∧ ∃ k, KeyD c k) ∧ PD (.dict (dctD fk fv ds))) : EV K F δ (tDcX K wi g tYes ty tv vs) PD := by
  refine v_dcX w gw (w.mono _ _ (fun ds z => ?_) h)
  obtain ⟨hl, he, hp⟩ := z
  refine ⟨fun k acc => acc = dctD fk fv (ds.take k), rfl, fun k x acc hx ea => ?_, fun acc ea => ?_⟩
  · have mem : x ∈ ds := List.mem_of_getElem? hx
    refine fun O H σ v S t Q q => he x mem O H σ v S t Q fun σ' δ' S' n => q σ' δ' S' (b_yes ⟨fun _ => n.mono fun c n2 => n2.mono fun d ⟨ec, ed, k', hk⟩ => ⟨k', hk, ?_, ?_⟩, fun z => Bool.noConfusion z⟩)
    · rw [ea]
      have h1 := dctD_len (fk := fk) (fv := fv) (ds.take k)
      have h2 : (ds.take k).length ≤ ds.length := by
        rw [List.length_take]
        omega
      omega
    · show putD acc c k' d = dctD fk fv (ds.take (k + 1))
      rw [take_upA hx, dctD_snoc, ea, ← ec, ← ed]
      unfold putO
      rw [hk.1]
      rfl
  · have ea : acc = dctD fk fv (ds.take ds.length) := ea
    rw [ea, List.take_length]
    exact hp
/-! ### try: f(..); more except S: .. -/
variable {C S : Addr} {t : TA} {t2 ts : TS} {G : List PyData → (PyData → Prop) → Prop → Prop}
end
section
variable {X : Cx} {K : PySem.W.Frag} {C S : Addr} {k : Nat} {f x y : Str} {ps : List Str} {G : List PyData → (PyData → Prop) → Prop → Prop} {e : Expr} {es : List Expr} {t : TA} {t2 ts : TS} {b₀ : Stmt} {suite rest : List Stmt} {p p1 pr ps1 np pos pos' tp : Pos}
end
end Pg
set_option exponentiation.threshold 2000
/-! Pg29: places in order: each once, the grid, sorted. Plain Lean. -/
namespace Pg
open PySem PySem.Spec PyProof.Rows L2
/-! ### ascending lists with the same places are one -/
theorem asc_uniq : ∀ {T U : List Pt}, T.Pairwise lt → U.Pairwise lt → (∀ t, t ∈ T ↔ t ∈ U) → T = U
  | [], [], _, _, _ => rfl
  | [], b :: s, _, _, h => by
    have := (h b).mpr List.mem_cons_self
    cases this
  | a :: r, [], _, _, h => by
    have := (h a).mp List.mem_cons_self
    cases this
  | a :: r, b :: s, hT, hU, h => by
    have t1 := List.pairwise_cons.mp hT
    have u1 := List.pairwise_cons.mp hU
    have e : a = b := by
      rcases List.mem_cons.mp ((h a).mp List.mem_cons_self) with z | z
      · exact z
      · rcases List.mem_cons.mp ((h b).mpr List.mem_cons_self) with y | y
        · exact y.symm
        · exact (lt_no (u1.1 a z) (t1.1 b y)).elim
    subst e
    have nr : a ∉ r := fun m => lt_ir (t1.1 a m)
    have ns : a ∉ s := fun m => lt_ir (u1.1 a m)
    rw [asc_uniq t1.2 u1.2 fun t => ⟨fun m => ?_, fun m => ?_⟩]
    · rcases List.mem_cons.mp ((h t).mp (List.mem_cons_of_mem _ m)) with z | z
      · rw [z] at m
        exact (nr m).elim
      · exact z
    · rcases List.mem_cons.mp ((h t).mpr (List.mem_cons_of_mem _ m)) with z | z
      · rw [z] at m
        exact (ns m).elim
      · exact z
/-- the places of S in order, each once -/
structure Ord (S T : List Pt) : Prop where
  asc : T.Pairwise lt
  mem : ∀ t, t ∈ T ↔ t ∈ S
theorem Ord.uniq {S S' T T' : List Pt} (h : Ord S T) (h' : Ord S' T') (e : ∀ t, t ∈ S ↔ t ∈ S') : T = T' := asc_uniq h.asc h'.asc fun t => by rw [h.mem, h'.mem, e]
theorem Ord.ne {S T : List Pt} (h : Ord S T) (n : S ≠ []) : T ≠ [] := by
  intro e
  cases S with
  | nil => exact n rfl
  | cons a r =>
    have := (h.mem a).mpr List.mem_cons_self
    rw [e] at this
    cases this
theorem asc_len : ∀ {T S : List Pt}, T.Nodup → (∀ t ∈ T, t ∈ S) → T.length ≤ S.length := fun {T S} h m => by
  induction T generalizing S with
  | nil => exact Nat.zero_le _
  | cons a r ih =>
    have h2 := List.nodup_cons.mp h
    have ma := m a List.mem_cons_self
    have := ih (S := S.erase a) h2.2 fun t mt => (List.mem_erase_of_ne (fun e => h2.1 (by rw [← e]; exact mt))).mpr (m t (List.mem_cons_of_mem _ mt))
    rw [List.length_erase_of_mem ma] at this
    have : 0 < S.length := List.length_pos_of_mem ma
    rw [List.length_cons]
    omega
theorem Ord.len {S T : List Pt} (h : Ord S T) : T.length ≤ S.length := asc_len (asc_nodup h.asc) fun t m => (h.mem t).mp m
/-! ### keys -/
/-! ### the grid -/
def gx (M : Int) (p : Pt) : Int := p.x * (M.fdiv p.w)
def gy (M : Int) (p : Pt) : Int := p.y * (M.fdiv p.w)
/-- what all denominators divide -/
structure Cm (S : List Pt) (B : Int) : Prop where
  pos : 0 < B
  lt : B.natAbs < 2 ^ 4000
  dvd : ∀ s ∈ S, s.w ∣ B
/-! ### the rows that are sorted -/
/-! ### what the laws' and the program's defs tell -/
def gCommon (ds : List PyData) (P : PyData → Prop) : Prop := ∃ (ns : List Int) (B : Int), ds = [.list (ns.map .int)] ∧ ns.length ≤ 100000 ∧ 0 < B ∧ B.natAbs < 2 ^ 4000 ∧ (∀ n ∈ ns, 0 < n ∧ n ∣ B) ∧ ∀ M : Int, 0 < M → M ∣ B → (∀ n ∈ ns, n ∣ M) → P (.int M)
structure Pls (S : List Pt) : Prop where
  len : S.length ≤ 100000
  gp : ∀ s ∈ S, GP s
  cm : ∃ B, Cm S B
end Pg
/-! Pg30: which places are corners; a hull of its corners; a corner left out. Plain Lean. -/
namespace Pg
open PySem PySem.Spec PyProof.Rows L2
/-! ### below, above all others -/
def Low (S : List Pt) (s : Pt) : Prop := ∀ x ∈ S, ∀ y ∈ S, lt x s → lt s y → 0 < dt x s y
def Hi (S : List Pt) (s : Pt) : Prop := ∀ x ∈ S, ∀ y ∈ S, lt x s → lt s y → dt x s y < 0
theorem Low.sub {S T : List Pt} {s : Pt} (h : Low S s) (m : ∀ t ∈ T, t ∈ S) : Low T s := fun a ma b mb => h a (m a ma) b (m b mb)
theorem dt_rev (a s b : Pt) : dt b s a = - dt a s b := by
  unfold dt det3
  grind
theorem low_ng {S : List Pt} {s : Pt} : Low (S.reverse.map ng) (ng s) ↔ Hi S s := by
  constructor
  · intro h x mx y my lx ly
    have := h (ng y) (List.mem_map_of_mem (List.mem_reverse.mpr my)) (ng x) (List.mem_map_of_mem (List.mem_reverse.mpr mx)) (lt_ng.mpr ly) (lt_ng.mpr lx)
    rw [dt_ng, dt_rev] at this
    omega
  · intro h x mx y my lx ly
    obtain ⟨a, ma, rfl⟩ := List.mem_map.mp mx
    obtain ⟨b, mb, rfl⟩ := List.mem_map.mp my
    have := h b (List.mem_reverse.mp mb) a (List.mem_reverse.mp ma) (lt_ng.mp ly) (lt_ng.mp lx)
    rw [dt_ng, dt_rev]
    omega
theorem Inn.low {S : List Pt} {s a c : Pt} (I : Inn S s a c) (ws : 0 < s.w) : Low S s := fun x mx y my lx ly => by
  have c1 : 0 < cr (wy a s) (wy s c) := by
    rw [wy_b]
    exact Int.mul_pos ws I.tn
  have c2 : 0 ≤ cr (wy x s) (wy a s) := by
    rw [wy_c]
    refine Int.mul_nonneg (Int.le_of_lt ws) ?_
    rw [show dt x a s = dt a s x from (dt_cyc x a s).symm]
    exact I.ea x mx
  have c3 : 0 ≤ cr (wy s c) (wy s y) := by
    rw [wy_a]
    exact Int.mul_nonneg (Int.le_of_lt ws) (I.ec y my)
  have c4 := cr_trans2 lx I.la I.lc c2 c1
  have c5 := cr_trans1 lx I.lc ly c4 c3
  rw [wy_b] at c5
  exact pos_of ws c5
theorem chain_low {S : List Pt} (A : Asc S) {s : Pt} (m : s ∈ chainS [] S) (ws : 0 < s.w) : Low S s := by
  rcases chain_cases A m with h | h | ⟨a, c, I⟩
  · intro x mx y my lx ly
    rcases h y my with e | e
    · rw [e] at ly
      exact (lt_ir ly).elim
    · exact (lt_no e ly).elim
  · intro x mx y my lx ly
    rcases h x mx with e | e
    · rw [e] at lx
      exact (lt_ir lx).elim
    · exact (lt_no e lx).elim
  · exact I.low ws
/-- between the first and the last of a row: on it, or within one of its pairs -/
theorem span {s : Pt} : ∀ (L : List Pt) (f : Pt), lt f s → (∀ t ∈ f :: L, s = t ∨ lt s t ∨ lt t s) → (∃ t ∈ f :: L, lt s t) → s ∈ f :: L ∨ ∃ pr ∈ prs (f :: L), lt pr.1 s ∧ lt s pr.2
  | [], f, hf, _, ⟨t, mt, l⟩ => by
    rw [List.mem_singleton.mp mt] at l
    exact (lt_no hf l).elim
  | c :: r, f, hf, hc, ⟨t, mt, l⟩ => by
    rcases hc c (List.mem_cons_of_mem _ List.mem_cons_self) with e | e | e
    · exact .inl (by rw [e]; exact List.mem_cons_of_mem _ List.mem_cons_self)
    · exact .inr ⟨(f, c), List.mem_cons_self, hf, e⟩
    · have mt2 : t ∈ c :: r := by
        rcases List.mem_cons.mp mt with z | z
        · rw [z] at l
          exact (lt_no hf l).elim
        · exact z
      rcases span r c e (fun t m => hc t (List.mem_cons_of_mem _ m)) ⟨t, mt2, l⟩ with z | ⟨pr, m, z⟩
      · exact .inl (List.mem_cons_of_mem _ z)
      · exact .inr ⟨pr, List.mem_cons_of_mem _ m, z⟩
/-- the chain of a row: its ends, its pairs -/
structure Lower (S : List Pt) (f b : Pt) (L : List Pt) : Prop where
  eq : (chainS [] S).reverse = f :: L
  fst : ∀ s ∈ S, s = f ∨ lt f s
  lst : ∀ s ∈ S, s = b ∨ lt s b
  mf : f ∈ S
  mb : b ∈ S
  hb : (f :: L).getLast? = some b
  sub : ∀ s ∈ f :: L, s ∈ S
  asc : (f :: L).Pairwise lt
  left : ∀ pr ∈ prs (f :: L), ∀ s ∈ S, 0 ≤ dt pr.1 pr.2 s
theorem lower {S : List Pt} (A : Asc S) (n : S ≠ []) : ∃ f b L, Lower S f b L := by
  obtain ⟨f, ps, e⟩ : ∃ f ps, S = f :: ps := by
    cases S with
    | nil => exact (n rfl).elim
    | cons f ps => exact ⟨f, ps, rfl⟩
  obtain ⟨b, r, e1, m1, l1, g1, d1⟩ := stack_ok A e
  obtain ⟨b', r', done, e2, C, md, top⟩ := chain_ch A e
  rw [e1] at e2
  cases e2
  obtain ⟨u, eu⟩ := List.getLast?_eq_some_iff.mp l1
  have er : (b :: r).reverse = f :: u.reverse := by rw [eu, List.reverse_append]; rfl
  have sf : ∀ s ∈ S, s = f ∨ lt f s := fun s m => by
    have srt := A.srt
    rw [e] at srt m
    rcases List.mem_cons.mp m with z | z
    · exact .inl z
    · exact .inr ((List.pairwise_cons.mp srt).1 s z)
  refine ⟨f, b, u.reverse, by rw [e1]; exact er, sf, top, by rw [e]; exact List.mem_cons_self, m1 b List.mem_cons_self, ?_, fun s m => m1 s ?_, ?_, ?_⟩
  · rw [← er, List.getLast?_reverse]
    rfl
  · rw [← er] at m
    exact List.mem_reverse.mp m
  · rw [← er, List.pairwise_reverse]
    exact C.srt
  · rw [← er]
    exact d1
theorem asc_cmp {S : List Pt} (h : S.Pairwise lt) : ∀ a ∈ S, ∀ b ∈ S, a = b ∨ lt a b ∨ lt b a := by
  induction S with
  | nil =>
    intro a m
    cases m
  | cons x r ih =>
    have q := List.pairwise_cons.mp h
    intro a ma b mb
    rcases List.mem_cons.mp ma with ea | ma
    · rcases List.mem_cons.mp mb with eb | mb
      · exact .inl (ea.trans eb.symm)
      · rw [ea]
        exact .inr (.inl (q.1 b mb))
    · rcases List.mem_cons.mp mb with eb | mb
      · rw [eb]
        exact .inr (.inr (q.1 a ma))
      · exact ih q.2 a ma b mb
theorem chain_mem {S : List Pt} (A : Asc S) {s : Pt} : s ∈ chainS [] S ↔ s ∈ S ∧ Low S s := by
  by_cases n : S = []
  · subst n
    exact ⟨fun m => (by cases m), fun m => (by cases m.1)⟩
  obtain ⟨f, b, L, W⟩ := lower A n
  have mr : ∀ {t}, t ∈ chainS [] S ↔ t ∈ f :: L := fun {t} => by rw [← W.eq, List.mem_reverse]
  constructor
  · intro m
    have ms := W.sub s (mr.mp m)
    exact ⟨ms, chain_low A m (A.w s ms)⟩
  · rintro ⟨ms, lo⟩
    rw [mr]
    rcases W.fst s ms with e | l
    · rw [e]
      exact List.mem_cons_self
    · rcases W.lst s ms with e | l2
      · rw [e]
        exact List.mem_of_getLast? W.hb
      · rcases span L f l (fun t m => asc_cmp A.srt s ms t (W.sub t m)) ⟨b, List.mem_of_getLast? W.hb, l2⟩ with z | ⟨pr, m, z1, z2⟩
        · exact z
        · exfalso
          obtain ⟨p1, p2⟩ := prs_mem pr m
          have q1 := W.left pr m s ms
          have q2 := lo pr.1 (W.sub _ p1) pr.2 (W.sub _ p2) z1 z2
          rw [dt_swap] at q2
          omega
theorem chain_srt {S : List Pt} (A : Asc S) : (chainS [] S).reverse.Pairwise lt := by
  by_cases n : S = []
  · subst n
    exact List.Pairwise.nil
  obtain ⟨f, b, L, W⟩ := lower A n
  rw [W.eq]
  exact W.asc
/-- fewer places, all corners among them: the same chain -/
theorem chain_eq {S T : List Pt} (A : Asc S) (B : Asc T) (sub : ∀ t ∈ T, t ∈ S) (sup : ∀ s ∈ chainS [] S, s ∈ T) : chainS [] T = chainS [] S := by
  have key : (chainS [] T).reverse = (chainS [] S).reverse := asc_uniq (chain_srt B) (chain_srt A) fun s => by
    rw [List.mem_reverse, List.mem_reverse, chain_mem B]
    constructor
    · rintro ⟨mt, lo⟩
      have ms := sub s mt
      obtain ⟨f, b, L, W⟩ := lower A (fun e => by rw [e] at ms; cases ms)
      have mr : ∀ {t}, t ∈ chainS [] S ↔ t ∈ f :: L := fun {t} => by rw [← W.eq, List.mem_reverse]
      rw [mr]
      rcases W.fst s ms with e | l
      · rw [e]
        exact List.mem_cons_self
      · rcases W.lst s ms with e | l2
        · rw [e]
          exact List.mem_of_getLast? W.hb
        · rcases span L f l (fun t m => asc_cmp A.srt s ms t (W.sub t m)) ⟨b, List.mem_of_getLast? W.hb, l2⟩ with z | ⟨pr, m, z1, z2⟩
          · exact z
          · exfalso
            obtain ⟨p1, p2⟩ := prs_mem pr m
            have q1 := W.left pr m s ms
            have q2 := lo pr.1 (sup _ (mr.mpr p1)) pr.2 (sup _ (mr.mpr p2)) z1 z2
            rw [dt_swap] at q2
            omega
    · intro m
      exact ⟨sup s m, ((chain_mem A).mp m).2.sub sub⟩
  have := congrArg List.reverse key
  rwa [List.reverse_reverse, List.reverse_reverse] at this
theorem up_chain (S : List Pt) : chainS [] (S.reverse.map ng) = (chainS [] S.reverse).map ng := chainS_ng S.reverse []
theorem ng_inj {p q : Pt} (h : ng p = ng q) : p = q := by rw [← ng_ng p, h, ng_ng]
theorem mem_ng {S : List Pt} {s : Pt} : ng s ∈ S.map ng ↔ s ∈ S := ⟨fun m => by
  obtain ⟨t, mt, e⟩ := List.mem_map.mp m
  rw [← ng_inj e]
  exact mt, fun m => List.mem_map_of_mem m⟩
theorem upper_mem {S : List Pt} (A : Asc S) {s : Pt} : s ∈ chainS [] S.reverse ↔ s ∈ S ∧ Hi S s := by
  rw [← mem_ng, ← up_chain, chain_mem (asc_rev A), mem_ng, List.mem_reverse, low_ng]
theorem upper_eq {S T : List Pt} (A : Asc S) (B : Asc T) (sub : ∀ t ∈ T, t ∈ S) (sup : ∀ s ∈ chainS [] S.reverse, s ∈ T) : chainS [] T.reverse = chainS [] S.reverse := by
  have := chain_eq (asc_rev A) (asc_rev B) (fun t m => by
    obtain ⟨u, mu, rfl⟩ := List.mem_map.mp m
    exact mem_ng.mpr (List.mem_reverse.mpr (sub u (List.mem_reverse.mp mu)))) (fun s m => by
    rw [up_chain] at m
    obtain ⟨u, mu, rfl⟩ := List.mem_map.mp m
    exact mem_ng.mpr (List.mem_reverse.mpr (sup u mu)))
  rw [up_chain, up_chain] at this
  have e := congrArg (List.map ng) this
  rw [List.map_map, List.map_map] at e
  have id : (ng ∘ ng) = id := funext ng_ng
  rw [id, List.map_id, List.map_id] at e
  exact e
/-- both chains, put together -/
structure View (S : List Pt) (f b : Pt) (L U : List Pt) : Prop where
  low : Lower S f b L
  upr : (chainS [] S.reverse).reverse = b :: U
  uf : (b :: U).getLast? = some f
  ul : ∀ pr ∈ prs (b :: U), ∀ s ∈ S, 0 ≤ dt pr.1 pr.2 s
  us : ∀ s ∈ b :: U, s ∈ S
  ud : (b :: U).Pairwise fun x y => lt y x
  hull : hullP S = (f :: L).dropLast ++ (b :: U).dropLast
theorem view {S : List Pt} (A : Asc S) (n : 2 ≤ S.length) : ∃ f b L U, View S f b L U ∧ L ≠ [] ∧ U ≠ [] := by
  have n0 : S ≠ [] := fun e => by rw [e] at n; cases n
  obtain ⟨f, b, L, W⟩ := lower A n0
  have A2 := asc_rev A
  obtain ⟨f2, b2, L2, W2⟩ := lower A2 (fun e => by
    have := congrArg List.length e
    rw [List.length_map, List.length_reverse] at this
    have : S.length = 0 := this
    omega)
  have back : ∀ {s : Pt}, s ∈ S.reverse.map ng → ng s ∈ S := fun {s} m => by
    obtain ⟨t, mt, rfl⟩ := List.mem_map.mp m
    rw [ng_ng]
    exact List.mem_reverse.mp mt
  have forth : ∀ {s : Pt}, s ∈ S → ng s ∈ S.reverse.map ng := fun {s} m => List.mem_map_of_mem (List.mem_reverse.mpr m)
  have e2 : f2 = ng b := by
    rcases W2.fst (ng b) (forth W.mb) with e | l
    · exact e.symm
    · rcases W.lst (ng f2) (back W2.mf) with e | l2
      · rw [← e, ng_ng]
      · rw [← lt_ng, ng_ng] at l2
        exact (lt_no l l2).elim
  have e3 : b2 = ng f := by
    rcases W2.lst (ng f) (forth W.mf) with e | l
    · exact e.symm
    · rcases W.fst (ng b2) (back W2.mb) with e | l2
      · rw [← e, ng_ng]
      · rw [← lt_ng, ng_ng] at l2
        exact (lt_no l l2).elim
  have eu : (chainS [] S.reverse).reverse = b :: L2.map ng := by
    have := W2.eq
    rw [up_chain, ← List.map_reverse] at this
    have e := congrArg (List.map ng) this
    rw [List.map_map, show (ng ∘ ng) = id from funext ng_ng, List.map_id, List.map_cons, e2, ng_ng] at e
    exact e
  have hbf : lt f b := by
    rcases W.fst b W.mb with e | l
    · exfalso
      have all : ∀ s ∈ S, s = f := fun s m => by
        rcases W.fst s m with z | z
        · exact z
        · rcases W.lst s m with y | y
          · exact y.trans e
          · rw [e] at y
            exact (lt_no z y).elim
      have srt := A.srt
      match S, n, all, srt with
      | x :: y :: r, _, all, srt =>
        have := (List.pairwise_cons.mp srt).1 y List.mem_cons_self
        rw [all x List.mem_cons_self, all y (List.mem_cons_of_mem _ List.mem_cons_self)] at this
        exact lt_ir this
    · exact l
  have nL : L ≠ [] := fun e => by
    have := W.hb
    rw [e] at this
    cases this
    exact lt_ir hbf
  have nU : L2.map ng ≠ [] := fun e => by
    have e' := List.map_eq_nil_iff.mp e
    have := W2.hb
    rw [e', e2, e3] at this
    have := ng_inj (Option.some.inj this)
    rw [this] at hbf
    exact lt_ir hbf
  have prs_ng : ∀ l : List Pt, prs (l.map ng) = (prs l).map fun pr => (ng pr.1, ng pr.2) := by
    intro l
    induction l with
    | nil => rfl
    | cons x t ih =>
      cases t with
      | nil => rfl
      | cons y t =>
        show (ng x, ng y) :: prs ((y :: t).map ng) = _
        rw [ih]
        rfl
  have em : b :: L2.map ng = (f2 :: L2).map ng := by rw [List.map_cons, e2, ng_ng]
  refine ⟨f, b, L, L2.map ng, ⟨W, eu, ?_, fun pr m s ms => ?_, fun s m => ?_, ?_, ?_⟩, nL, nU⟩
  · rw [em, List.getLast?_map, W2.hb, e3]
    show some (ng (ng f)) = some f
    rw [ng_ng]
  · rw [em, prs_ng] at m
    obtain ⟨q, mq, rfl⟩ := List.mem_map.mp m
    have := W2.left q mq (ng s) (forth ms)
    rw [← dt_ng, ng_ng] at this
    exact this
  · rw [em] at m
    obtain ⟨t, mt, rfl⟩ := List.mem_map.mp m
    exact back (W2.sub t mt)
  · rw [em, List.pairwise_map]
    exact W2.asc.imp fun h => lt_ng.mpr h
  · have z1 := W.eq
    unfold hullP
    rw [if_neg (by omega), ← List.dropLast_reverse, ← List.dropLast_reverse, W.eq, eu]
theorem View.mem {S : List Pt} {f b : Pt} {L U : List Pt} (V : View S f b L U) (nL : L ≠ []) (nU : U ≠ []) {s : Pt} : s ∈ hullP S ↔ s ∈ f :: L ∨ s ∈ b :: U := by
  obtain ⟨u, eu⟩ := List.getLast?_eq_some_iff.mp V.low.hb
  obtain ⟨v, ev⟩ := List.getLast?_eq_some_iff.mp V.uf
  have hu : f ∈ u := by
    cases u with
    | nil =>
      injection eu with _ h
      exact (nL h).elim
    | cons x t =>
      injection eu with h _
      rw [h]
      exact List.mem_cons_self
  have hv : b ∈ v := by
    cases v with
    | nil =>
      injection ev with _ h
      exact (nU h).elim
    | cons x t =>
      injection ev with h _
      rw [h]
      exact List.mem_cons_self
  rw [V.hull, eu, ev, List.dropLast_concat, List.dropLast_concat]
  simp only [List.mem_append, List.mem_singleton]
  constructor
  · rintro (h | h)
    · exact .inl (.inl h)
    · exact .inr (.inl h)
  · rintro ((h | h) | (h | h))
    · exact .inl h
    · rw [h]
      exact .inr hv
    · exact .inr h
    · rw [h]
      exact .inl hu
/-- a hull of its corners it stays -/
theorem hull_idem {S T : List Pt} (A : Asc S) (O : Ord (hullP S) T) : hullP T = hullP S := by
  by_cases n : S.length < 2
  · have e : hullP S = S := by
      unfold hullP
      rw [if_pos n]
    rw [e] at O ⊢
    have : T = S := asc_uniq O.asc A.srt O.mem
    rw [this]
    exact e
  have n2 : 2 ≤ S.length := by omega
  obtain ⟨f, b, L, U, V, nL, nU⟩ := view A n2
  have sub : ∀ t ∈ T, t ∈ S := fun t m => hull_sub A t ((O.mem t).mp m)
  have B : Asc T := ⟨fun t m => A.w t (sub t m), O.asc⟩
  have mt : ∀ {t}, t ∈ f :: L ∨ t ∈ b :: U → t ∈ T := fun {t} h => (O.mem t).mpr ((V.mem nL nU).mpr h)
  have e1 := chain_eq A B sub fun s m => mt (.inl (by rw [← V.low.eq]; exact List.mem_reverse.mpr m))
  have e2 := upper_eq A B sub fun s m => mt (.inr (by rw [← V.upr]; exact List.mem_reverse.mpr m))
  have nT : ¬ T.length < 2 := fun h => by
    have mf : f ∈ T := mt (.inl List.mem_cons_self)
    have mb : b ∈ T := mt (.inr List.mem_cons_self)
    match T, h, mf, mb with
    | [x], _, mf, mb =>
      have ef := List.mem_singleton.mp mf
      have eb := List.mem_singleton.mp mb
      have := V.low.hb
      obtain ⟨u, eu⟩ := List.getLast?_eq_some_iff.mp this
      have asc := V.low.asc
      cases L with
      | nil => exact nL rfl
      | cons y t =>
        have : lt f b := (List.pairwise_cons.mp asc).1 b (by
          rw [List.getLast?_cons_cons] at this
          exact List.mem_of_getLast? this)
        rw [ef, eb] at this
        exact lt_ir this
  unfold hullP
  rw [if_neg nT, if_neg n, e1, e2]
/-- a hull has all places of its own -/
theorem hull_has {S : List Pt} (A : Asc S) {p : Pt} (m : p ∈ S) : hasB (hullP S) p = true := by
  by_cases n : S.length < 2
  · have e : hullP S = S := by
      unfold hullP
      rw [if_pos n]
    rw [e]
    match S, n, m with
    | [x], _, m =>
      rw [List.mem_singleton.mp m]
      have d : dt x x x = 0 := by
        unfold dt det3
        grind
      unfold hasB edB
      simp [prs, d, lt_ir]
  have n2 : 2 ≤ S.length := by omega
  obtain ⟨h1, h2, h3, h4, h5⟩ := hull_ok A n2
  obtain ⟨f, b, L, U, V, nL, nU⟩ := view A n2
  unfold hasB
  rw [Bool.and_eq_true]
  refine ⟨?_, ?_⟩
  · unfold edB
    rw [List.all_eq_true]
    intro pr mp
    exact decide_eq_true (h3 pr mp p m)
  · rw [Bool.or_eq_true]
    by_cases l : 2 < (hullP S).length
    · exact .inl (decide_eq_true l)
    · refine .inr ?_
      obtain ⟨x, y, exy⟩ : ∃ x y, hullP S = [x, y] := by
        match hullP S, h2, l with
        | [x, y], _, _ => exact ⟨x, y, rfl⟩
        | _ :: _ :: _ :: _, _, l => exact absurd (by simp) l
      have lxy := h4 x y exy
      have mx : ∀ z, z ∈ [x, y] → z ∈ S := fun z mz => h1 z (by rw [exy]; exact mz)
      have hx : x = f := by
        have := V.mem nL nU (s := f)
        rw [exy] at this
        rcases List.mem_cons.mp (this.mpr (.inl List.mem_cons_self)) with z | z
        · exact z.symm
        · rw [List.mem_singleton] at z
          rcases V.low.fst x (mx x List.mem_cons_self) with q | q
          · exact q
          · rw [z] at q
            exact (lt_no q lxy).elim
      have hy : y = b := by
        have := V.mem nL nU (s := b)
        rw [exy] at this
        rcases List.mem_cons.mp (this.mpr (.inr List.mem_cons_self)) with z | z
        · rcases V.low.lst y (mx y (List.mem_cons_of_mem _ List.mem_cons_self)) with q | q
          · exact q
          · rw [z] at q
            exact (lt_no q lxy).elim
        · exact (List.mem_singleton.mp z).symm
      rw [exy]
      show ((!decide (lt p x)) && !decide (lt y p)) = true
      have a1 : ¬ lt p x := by
        rw [hx]
        rcases V.low.fst p m with e | e
        · rw [e]
          exact lt_ir
        · exact fun z => lt_no e z
      have a2 : ¬ lt y p := by
        rw [hy]
        rcases V.low.lst p m with e | e
        · rw [e]
          exact lt_ir
        · exact fun z => lt_no e z
      rw [decide_eq_false a1, decide_eq_false a2]
      rfl
end Pg
set_option exponentiation.threshold 2000
/-! Pg31: small facts for the readings of hulls. -/
namespace Pg
open PySem PySem.Spec PyProof.Rows L2
theorem fdiv_le {M w : Int} (hw : 0 < w) (h : w ∣ M) : (M.fdiv w).natAbs ≤ M.natAbs := by
  obtain ⟨k, rfl⟩ := h
  rw [Int.mul_fdiv_cancel_left k (by omega), Int.natAbs_mul]
  exact Nat.le_mul_of_pos_left _ (by omega)
theorem lcm_step {m n B : Int} (m0 : 0 < m) (n0 : 0 < n) (mB : m ∣ B) (nB : n ∣ B) (hB : 0 < B) (lB : B.natAbs < 2 ^ 4000) :
    DivOk n ((Nat.gcd m.natAbs n.natAbs : Nat) : Int) ∧ MlOk m (n.fdiv ((Nat.gcd m.natAbs n.natAbs : Nat) : Int)) ∧ 0 < m * n.fdiv ((Nat.gcd m.natAbs n.natAbs : Nat) : Int) ∧ m * n.fdiv ((Nat.gcd m.natAbs n.natAbs : Nat) : Int) ∣ B ∧ m ∣ m * n.fdiv ((Nat.gcd m.natAbs n.natAbs : Nat) : Int) ∧ n ∣ m * n.fdiv ((Nat.gcd m.natAbs n.natAbs : Nat) : Int) := by
  obtain ⟨a, rfl⟩ := Int.eq_ofNat_of_zero_le (Int.le_of_lt m0)
  obtain ⟨b, rfl⟩ := Int.eq_ofNat_of_zero_le (Int.le_of_lt n0)
  obtain ⟨c, rfl⟩ := Int.eq_ofNat_of_zero_le (Int.le_of_lt hB)
  rw [Int.natAbs_natCast, Int.natAbs_natCast]
  rw [Int.natAbs_natCast] at lB
  have a0 : 0 < a := by omega
  have b0 : 0 < b := by omega
  have c0 : 0 < c := by omega
  have da : a ∣ c := Int.natCast_dvd_natCast.mp mB
  have db : b ∣ c := Int.natCast_dvd_natCast.mp nB
  have g0 : 0 < Nat.gcd a b := Nat.gcd_pos_of_pos_left _ a0
  have gb : Nat.gcd a b ∣ b := Nat.gcd_dvd_right a b
  have e1 : ((b : Nat) : Int).fdiv ((Nat.gcd a b : Nat) : Int) = ((b / Nat.gcd a b : Nat) : Int) := by
    rw [Int.fdiv_eq_ediv_of_nonneg _ (by omega)]
    rfl
  rw [e1, ← Int.natCast_mul]
  have el : a * (b / Nat.gcd a b) = Nat.lcm a b := by
    rw [Nat.lcm, Nat.mul_div_assoc _ gb]
  rw [el]
  have lb : b ≤ c := Nat.le_of_dvd c0 db
  have la : a ≤ c := Nat.le_of_dvd c0 da
  have lg : Nat.gcd a b ≤ b := Nat.le_of_dvd b0 gb
  refine ⟨.w 4000 (by omega) (by rw [Int.natAbs_natCast]; omega), .w 4000 4000 (by rw [Int.natAbs_natCast]; omega) ?_, ?_, Int.natCast_dvd_natCast.mpr (Nat.lcm_dvd da db), Int.natCast_dvd_natCast.mpr (Nat.dvd_lcm_left a b), Int.natCast_dvd_natCast.mpr (Nat.dvd_lcm_right a b)⟩
  · rw [Int.natAbs_natCast]
    exact Nat.lt_of_le_of_lt (Nat.div_le_self b _) (by omega)
  · have := Nat.lcm_pos a0 b0
    omega
end Pg
set_option exponentiation.threshold 2000
/-! Pg32: what laws draw: pools, middles, orders. -/
namespace Pg
open PySem PySem.Spec PyProof.Rows L2
section
variable {K : PySem.W.Frag} {F : Fx} {δ : Se} {i : Nat} {P : Po}
end
/-! ### what all denominators divide: their product -/
theorem Cm.sub {S T : List Pt} {B : Int} (h : Cm S B) (m : ∀ t ∈ T, t ∈ S) : Cm T B := ⟨h.pos, h.lt, fun t mt => h.dvd t (m t mt)⟩
/-! ### middles of middles -/
theorem abs_to {x : Int} {y a b : Nat} (h : y < 2 ^ a) (l : x.natAbs ≤ y) (hab : a ≤ b) : x.natAbs < 2 ^ b := Nat.lt_of_le_of_lt l (Nat.lt_of_lt_of_le h (Nat.pow_le_pow_right (by decide) hab))
end Pg
namespace Pg
open PySem PySem.Spec PyProof.Rows L2
end Pg
/-! Pg33: == with the empty tuple; what is a plate; plates with something otherwise; odd things. -/
namespace Pg
open PySem PySem.Spec PyProof.Rows L2
/-! ### what is a plate -/
def ptOf : PyData → Pt
  | .tuple [.int a, .int b, .int c] => ⟨a, b, c⟩
  | _ => pz
end Pg
/-! Pg34: t[::-1] of a tuple. -/
namespace HT
open PySem PyProof.Rows
section
variable {prog : Program} {w : World} {A : Around} {E : Value → Shared → Prop} {s : Shared}
end
end HT
namespace Pg
open PySem PySem.Spec PyProof.Rows L2
section
variable {K : PySem.W.Frag} {F : Fx} {δ : Se} {te : TE} {P : PyData → Prop}
end
end Pg
namespace Pg
open PySem PySem.Spec PyProof.Rows L2
theorem cut_to {ds : List PyData} {k : Nat} : Pg.cutD ds none (some (k : Int)) = ds.take k := by
  unfold Pg.cutD
  rw [HT.sIx_nat, HT.sIx_none, List.drop_zero, Nat.sub_zero]
  rcases Nat.le_total k ds.length with h | h
  · rw [Nat.min_eq_left h]
  · rw [Nat.min_eq_right h, List.take_of_length_le (Nat.le_refl _), List.take_of_length_le h]
end Pg
set_option exponentiation.threshold 2000
/-! Pg35: odd things in the place of plates (k10). -/
namespace Pg
open PySem PySem.Spec PyProof.Rows L2
abbrev L5 (p : Pt) : Prop := p.x.natAbs < 10 ^ 500 ∧ p.y.natAbs < 10 ^ 500 ∧ p.w.natAbs < 10 ^ 500
theorem pts_show : ∀ {S : List Pt}, (∀ s ∈ S, L5 s) → leafyAll (S.map pD) ∧ nodesAll (S.map pD) = 4 * S.length ∧ PyData.depthAll (S.map pD) ≤ 1 ∧ PyData.hasDictAll (S.map pD) = false ∧ noLstAll (S.map pD) = true
  | [], _ => ⟨trivial, rfl, Nat.zero_le _, rfl, rfl⟩
  | s :: r, h => by
    obtain ⟨a1, a2, a3, a4, a5⟩ := pts_show (S := r) fun t m => h t (List.mem_cons_of_mem _ m)
    obtain ⟨b1, b2, b3⟩ := h s List.mem_cons_self
    refine ⟨⟨⟨b1, b2, b3, trivial⟩, a1⟩, ?_, ?_, a4, a5⟩
    · show 4 + nodesAll (r.map pD) = 4 * (r.length + 1)
      omega
    · show max (pD s).depth (PyData.depthAll (r.map pD)) ≤ 1
      have : (pD s).depth ≤ 1 := Nat.le_of_ble_eq_true rfl
      omega
def litB : PyData → Bool
  | .tuple [.int a, .int b, .int c] => decide (a.natAbs < 2 ^ 140) && (decide (b.natAbs < 2 ^ 140) && decide (c.natAbs < 2 ^ 11))
  | .tuple xs => decide (xs.length ≤ 1000)
  | _ => true
theorem atI_nat {X : List PyData} {n : Nat} (h : n < X.length) : atI X (n : Int) = some X[n] := by
  unfold atI ixN
  rw [if_pos (by omega), if_pos (by omega)]
  show X[(n : Int).toNat]? = _
  rw [Int.toNat_natCast, List.getElem?_eq_getElem h]
end Pg
/-! Pg36: plates drawn from a pool of any size. -/
namespace Pg
open PySem PySem.Spec PyProof.Rows L2
structure PlateH (H : List Pt) : Prop extends PlateX H where
  hul : ∃ T, Asc T ∧ T ≠ [] ∧ hullP T = H
theorem plateH_of {S T : List Pt} (hS : ∀ s ∈ S, GP s) (n : S ≠ []) (O : Ord S T) : PlateH (hullP T) ∧ (∀ s ∈ hullP T, s ∈ S) ∧ (hullP T).length ≤ S.length := by
  have A : Asc T := ⟨fun t m => (hS t ((O.mem t).mp m)).1.w, O.asc⟩
  have PX := hull_plateX hS n O.asc (fun t m => (O.mem t).mp m) fun _ => O.ne n
  have m : ∀ s ∈ hullP T, s ∈ S := fun s m => (O.mem s).mp (hull_sub A s m)
  exact ⟨⟨PX, T, A, O.ne n, rfl⟩, m, asc_len PX.nd m⟩
end Pg
/-! Pg37: within a plate: by its sides, by all half planes; hulls of sets that are within one another. Plain Lean. -/
namespace Pg
open PySem PySem.Spec PyProof.Rows L2
/-! ### Cv -/
theorem Cv.mem {H : List Pt} {s : Pt} (m : s ∈ H) : Cv H s := fun _ _ _ h => h s m
theorem Cv.mono {H H' : List Pt} {s : Pt} (c : Cv H s) (h : ∀ t ∈ H, t ∈ H') : Cv H' s := fun u v t z => c u v t fun s m => z s (h s m)
theorem Cv.trans {H H' : List Pt} {s : Pt} (c : Cv H s) (h : ∀ t ∈ H, Cv H' t) : Cv H' s := fun u v t z => c u v t fun s m => h s m u v t z
/-- a map, the same for all places -/
theorem Cv.map {H : List Pt} {p : Pt} {f : Pt → Pt} {k : Pt → Int} {a b e c d g n : Int} (h : Cv H p) (hk : ∀ s, (s ∈ H ∨ s = p) → 0 < k s ∧ a * s.x + b * s.y + e * s.w = k s * (f s).x ∧ c * s.x + d * s.y + g * s.w = k s * (f s).y ∧ n * s.w = k s * (f s).w) : Cv (H.map f) (f p) := fun u v t z => by
  have key : ∀ s, (s ∈ H ∨ s = p) → (u * a + v * c) * s.x + (u * b + v * d) * s.y + (u * e + v * g + t * n) * s.w = k s * (u * (f s).x + v * (f s).y + t * (f s).w) := fun s m => by
    obtain ⟨_, e1, e2, e3⟩ := hk s m
    have : (u * a + v * c) * s.x + (u * b + v * d) * s.y + (u * e + v * g + t * n) * s.w = u * (a * s.x + b * s.y + e * s.w) + v * (c * s.x + d * s.y + g * s.w) + t * (n * s.w) := by grind
    rw [this, e1, e2, e3]
    grind
  have w := h (u * a + v * c) (u * b + v * d) (u * e + v * g + t * n) fun s m => by
    rw [key s (.inl m)]
    exact Int.mul_nonneg (Int.le_of_lt (hk s (.inl m)).1) (z _ (List.mem_map_of_mem m))
  rw [key p (.inr rfl)] at w
  exact nonneg_of (hk p (.inr rfl)).1 w
theorem Cv.one {a u : Pt} (ha : FP a) (hu : FP u) (h : Cv [a] u) : u = a := by
  have wa := ha.w
  have z : ∀ p q r : Int, p * a.x + q * a.y + r * a.w = 0 → 0 ≤ p * u.x + q * u.y + r * u.w := fun p q r e => h p q r fun s m => by
    rw [List.mem_singleton.mp m, e]
    exact Int.le_refl 0
  have z1 := z a.w 0 (-a.x) (by grind)
  have z2 := z (-a.w) 0 a.x (by grind)
  have z3 := z 0 a.w (-a.y) (by grind)
  have z4 := z 0 (-a.w) a.y (by grind)
  have e1 : u.x * a.w = a.x * u.w := by
    have : a.w * u.x + 0 * u.y + -a.x * u.w = u.x * a.w - a.x * u.w := by grind
    have : -a.w * u.x + 0 * u.y + a.x * u.w = -(u.x * a.w - a.x * u.w) := by grind
    omega
  have e2 : u.y * a.w = a.y * u.w := by
    have : 0 * u.x + a.w * u.y + -a.y * u.w = u.y * a.w - a.y * u.w := by grind
    have : 0 * u.x + -a.w * u.y + a.y * u.w = -(u.y * a.w - a.y * u.w) := by grind
    omega
  rcases fp_cmp hu ha with e | e | e
  · exact e
  · unfold lt up wy at e
    simp only at e
    omega
  · unfold lt up wy at e
    simp only at e
    omega
theorem Cv.nil {u : Pt} (hu : 0 < u.w) : ¬ Cv [] u := fun h => by
  have := h 0 0 (-1) fun s m => by cases m
  omega
/-! ### a place that has the sides on its left -/
theorem tri_id (u v t : Int) (a b c p : Pt) : dt a b c * (u * p.x + v * p.y + t * p.w) = dt b c p * (u * a.x + v * a.y + t * a.w) + dt c a p * (u * b.x + v * b.y + t * b.w) + dt a b p * (u * c.x + v * c.y + t * c.w) := by
  unfold dt det3
  grind
theorem tri_cv {a b c p : Pt} {H : List Pt} (ma : a ∈ H) (mb : b ∈ H) (mc : c ∈ H) (D : 0 < dt a b c) (h1 : 0 ≤ dt b c p) (h2 : 0 ≤ dt c a p) (h3 : 0 ≤ dt a b p) : Cv H p := fun u v t z => by
  have e := tri_id u v t a b c p
  refine nonneg_of D ?_
  rw [e]
  exact Int.add_nonneg (Int.add_nonneg (Int.mul_nonneg h1 (z a ma)) (Int.mul_nonneg h2 (z b mb))) (Int.mul_nonneg h3 (z c mc))
theorem dt_flip (p q r : Pt) : dt q p r = - dt p q r := by
  unfold dt det3
  grind
theorem fan {H : List Pt} {a p : Pt} (ma : a ∈ H) : ∀ (L : List Pt) (c : Pt), (∀ s ∈ c :: L, s ∈ H) → 0 ≤ dt a c p → (∀ pr ∈ prs (c :: L ++ [a]), 0 ≤ dt pr.1 pr.2 p) → (∀ pr ∈ prs (c :: L), 0 < dt a pr.1 pr.2) → (L = [] → 0 < dt a c p) → Cv H p
  | [], c, _, _, he, _, hl => by
    have h1 : 0 ≤ dt c a p := he (c, a) List.mem_cons_self
    have h2 := hl rfl
    rw [dt_flip] at h1
    omega
  | d :: r, c, hm, h0, he, ht, _ => by
    have e1 := he (c, d) List.mem_cons_self
    have t1 := ht (c, d) List.mem_cons_self
    by_cases q : dt a d p ≤ 0
    · have e := dt_flip a d p
      exact tri_cv ma (hm c List.mem_cons_self) (hm d (List.mem_cons_of_mem _ List.mem_cons_self)) t1 e1 (by omega) h0
    · exact fan ma r d (fun s m => hm s (List.mem_cons_of_mem _ m)) (by omega) (fun pr m => he pr (List.mem_cons_of_mem _ m)) (fun pr m => ht pr (List.mem_cons_of_mem _ m)) fun _ => by omega
theorem seg_cv {a b p : Pt} (wp : 0 < p.w) (wa : 0 < a.w) (wb : 0 < b.w) (ab : lt a b) (h : dt a b p = 0) (h1 : ¬ lt p a) (h2 : ¬ lt b p) : Cv [a, b] p := fun u v t z => by
  have za := z a List.mem_cons_self
  have zb := z b (List.mem_cons_of_mem _ List.mem_cons_self)
  unfold lt up wy at ab h1 h2
  simp only at ab h1 h2
  have hd : dt a b p = a.x * (b.y * p.w - b.w * p.y) - a.y * (b.x * p.w - b.w * p.x) + a.w * (b.x * p.y - b.y * p.x) := by
    unfold dt det3
    grind
  rw [hd] at h
  rcases ab with X | ⟨X0, Y⟩
  · have i1 : (b.x * a.w - a.x * b.w) * (u * p.x + v * p.y + t * p.w) = (b.x * p.w - p.x * b.w) * (u * a.x + v * a.y + t * a.w) + (p.x * a.w - a.x * p.w) * (u * b.x + v * b.y + t * b.w) := by grind
    refine nonneg_of X ?_
    rw [i1]
    refine Int.add_nonneg (Int.mul_nonneg ?_ za) (Int.mul_nonneg ?_ zb) <;> omega
  · have ex : p.x * a.w = a.x * p.w := by
      have e1 : (b.y * a.w - a.y * b.w) * (p.x * a.w - a.x * p.w) = 0 := by grind
      rcases Int.mul_eq_zero.mp e1 with e | e <;> omega
    have ex2 : b.x * p.w = p.x * b.w := by
      have e1 : a.w * (b.x * p.w - p.x * b.w) = 0 := by grind
      rcases Int.mul_eq_zero.mp e1 with e | e <;> omega
    have i1 : (b.y * a.w - a.y * b.w) * (u * p.x + v * p.y + t * p.w) = (b.y * p.w - p.y * b.w) * (u * a.x + v * a.y + t * a.w) + (p.y * a.w - a.y * p.w) * (u * b.x + v * b.y + t * b.w) := by grind
    refine nonneg_of Y ?_
    rw [i1]
    refine Int.add_nonneg (Int.mul_nonneg ?_ za) (Int.mul_nonneg ?_ zb) <;> omega
theorem pt_cv {a p : Pt} (wa : 0 < a.w) (wp : 0 < p.w) (h1 : ¬ lt p a) (h2 : ¬ lt a p) : Cv [a] p := fun u v t z => by
  have za := z a List.mem_cons_self
  unfold lt up wy at h1 h2
  simp only at h1 h2
  have e1 : p.x * a.w = a.x * p.w := by omega
  have e2 : p.y * a.w = a.y * p.w := by omega
  have i1 : a.w * (u * p.x + v * p.y + t * p.w) = p.w * (u * a.x + v * a.y + t * a.w) := by grind
  refine nonneg_of wa ?_
  rw [i1]
  exact Int.mul_nonneg (Int.le_of_lt wp) za
theorem prs_in : ∀ {L : List Pt}, ∀ pr ∈ prs L, pr.1 ∈ L ∧ pr.2 ∈ L
  | [], _, m => by cases m
  | [_], _, m => by cases m
  | a :: b :: r, pr, m => by
    rcases List.mem_cons.mp m with e | m
    · rw [e]
      exact ⟨List.mem_cons_self, List.mem_cons_of_mem _ List.mem_cons_self⟩
    · obtain ⟨h1, h2⟩ := prs_in (L := b :: r) pr m
      exact ⟨List.mem_cons_of_mem _ h1, List.mem_cons_of_mem _ h2⟩
theorem prs_snoc : ∀ (L : List Pt) (a : Pt), ∀ pr ∈ prs L, pr ∈ prs (L ++ [a])
  | [], _, _, m => by cases m
  | [_], _, _, m => by cases m
  | x :: y :: r, a, pr, m => by
    rcases List.mem_cons.mp m with e | m
    · rw [e]
      exact List.mem_cons_self
    · exact List.mem_cons_of_mem _ (prs_snoc (y :: r) a pr m)
theorem has_to_cv {H : List Pt} (X : PlateX H) (hF : ∀ s ∈ H, FP s) {p : Pt} (wp : 0 < p.w) (h : hasB H p = true) : Cv H p := by
  unfold hasB at h
  rw [Bool.and_eq_true] at h
  obtain ⟨h1, h2⟩ := h
  unfold edB at h1
  rw [List.all_eq_true] at h1
  have hd : ∀ pr ∈ prs (H ++ H.take 1), 0 ≤ dt pr.1 pr.2 p := fun pr m => of_decide_eq_true (h1 pr m)
  match H, X, hF, hd, h2 with
  | [], X, _, _, _ => exact (X.ne rfl).elim
  | [a], X, hF, _, h2 =>
    have h2 : (false || (!decide (lt p a) && !decide (lt a p))) = true := h2
    rw [Bool.false_or, Bool.and_eq_true, Bool.not_eq_true', Bool.not_eq_true', decide_eq_false_iff_not, decide_eq_false_iff_not] at h2
    exact pt_cv (X.w a List.mem_cons_self) wp h2.1 h2.2
  | [a, b], X, hF, hd, h2 =>
    have h2 : (false || (!decide (lt p a) && !decide (lt b p))) = true := h2
    rw [Bool.false_or, Bool.and_eq_true, Bool.not_eq_true', Bool.not_eq_true', decide_eq_false_iff_not, decide_eq_false_iff_not] at h2
    have d1 : 0 ≤ dt a b p := hd (a, b) List.mem_cons_self
    have d2 : 0 ≤ dt b a p := hd (b, a) (List.mem_cons_of_mem _ List.mem_cons_self)
    rw [dt_flip] at d2
    exact seg_cv wp (X.w a List.mem_cons_self) (X.w b (List.mem_cons_of_mem _ List.mem_cons_self)) (X.two a b rfl) (by omega) h2.1 h2.2
  | a :: b :: c :: r, X, hF, hd, _ =>
    have nd := List.nodup_cons.mp X.nd
    refine fan List.mem_cons_self (c :: r) b (fun s m => List.mem_cons_of_mem _ m) (hd (a, b) List.mem_cons_self) (fun pr m => hd pr (List.mem_cons_of_mem _ m)) (fun pr m => ?_) fun e => by cases e
    obtain ⟨m1, m2⟩ := prs_in pr m
    have e1 : 0 ≤ dt pr.1 pr.2 a := X.edg pr (List.mem_cons_of_mem _ (prs_snoc (b :: c :: r) a pr m)) a List.mem_cons_self
    have n1 := prs_ne nd.2 pr m
    have cyc : dt a pr.1 pr.2 = dt pr.1 pr.2 a := (dt_cyc a pr.1 pr.2).symm
    rw [cyc]
    have z : dt pr.1 pr.2 a ≠ 0 := fun z => by
      rcases side_strict X hF (List.mem_cons_of_mem _ m1) (List.mem_cons_of_mem _ m2) List.mem_cons_self n1 z with e | e
      · exact nd.1 (e ▸ m1)
      · exact nd.1 (e ▸ m2)
    omega
/-! ### a corner, strictly -/
def Sep (S : List Pt) (s : Pt) : Prop := ∃ u v t : Int, u * s.x + v * s.y + t * s.w = 0 ∧ ∀ r ∈ S, r ≠ s → 0 < u * r.x + v * r.y + t * r.w
theorem Sep.sub {S T : List Pt} {s : Pt} (h : Sep S s) (m : ∀ t ∈ T, t ∈ S) : Sep T s := by
  obtain ⟨u, v, t, h1, h2⟩ := h
  exact ⟨u, v, t, h1, fun r mr n => h2 r (m r mr) n⟩
theorem bound_all (f : Pt → Int) : ∀ S : List Pt, ∃ B : Int, 0 < B ∧ ∀ s ∈ S, f s < B
  | [] => ⟨1, by decide, fun s m => by cases m⟩
  | a :: r => by
    obtain ⟨B, B0, h⟩ := bound_all f r
    by_cases q : f a < B
    · exact ⟨B, B0, fun s m => (List.mem_cons.mp m).elim (fun e => e ▸ q) (h s)⟩
    · refine ⟨f a + 1, by omega, fun s m => ?_⟩
      rcases List.mem_cons.mp m with e | m
      · rw [e]
        omega
      · have := h s m
        omega
/-- a place that is within others, and strictly apart from them, is one of them -/
theorem sep_mem {T : List Pt} {s : Pt} (ws : 0 < s.w) (S : Sep T s) (c : Cv T s) : s ∈ T := by
  refine Classical.byContradiction fun ns => ?_
  obtain ⟨u, v, t, h1, h2⟩ := S
  obtain ⟨B, B0, hB⟩ := bound_all (fun r => r.w) T
  have z := c (B * u) (B * v) (B * t - 1) fun r m => by
    have h := h2 r m fun e => ns (e ▸ m)
    have e : B * u * r.x + B * v * r.y + (B * t - 1) * r.w = B * (u * r.x + v * r.y + t * r.w) - r.w := by grind
    have b := hB r m
    rw [e]
    have : B * 1 ≤ B * (u * r.x + v * r.y + t * r.w) := Int.mul_le_mul_of_nonneg_left (by omega) (by omega)
    omega
  have e : B * u * s.x + B * v * s.y + (B * t - 1) * s.w = B * (u * s.x + v * s.y + t * s.w) - s.w := by grind
  rw [e, h1] at z
  omega
theorem inn_sep {S : List Pt} {s a c : Pt} (hF : ∀ r ∈ S, FP r) (fs : FP s) (I : Inn S s a c) : Sep S s := by
  have L := I.low fs.w
  refine ⟨(a.y * s.w - a.w * s.y) + (s.y * c.w - s.w * c.y), (a.w * s.x - a.x * s.w) + (s.w * c.x - s.x * c.w), (a.x * s.y - a.y * s.x) + (s.x * c.y - s.y * c.x), by grind, fun r mr n => ?_⟩
  have e : ((a.y * s.w - a.w * s.y) + (s.y * c.w - s.w * c.y)) * r.x + ((a.w * s.x - a.x * s.w) + (s.w * c.x - s.x * c.w)) * r.y + ((a.x * s.y - a.y * s.x) + (s.x * c.y - s.y * c.x)) * r.w = dt a s r + dt s c r := by
    rw [dt_lin, dt_lin]
    grind
  rw [e]
  have h1 := I.ea r mr
  have h2 := I.ec r mr
  rcases fp_cmp (hF r mr) fs with q | q | q
  · exact (n q).elim
  · have := L r mr c I.mc q I.lc
    rw [← dt_cyc r s c] at this
    omega
  · have := L a I.ma r mr I.la q
    omega
theorem first_sep {S : List Pt} {s : Pt} (ws : 0 < s.w) (h : ∀ r ∈ S, r = s ∨ lt s r) : Sep S s := by
  obtain ⟨B, B0, hB⟩ := bound_all (fun r => -(r.y * s.w - s.y * r.w)) S
  refine ⟨B * s.w, s.w, -(B * s.x) - s.y, by grind, fun r mr n => ?_⟩
  have e : B * s.w * r.x + s.w * r.y + (-(B * s.x) - s.y) * r.w = B * (r.x * s.w - s.x * r.w) + (r.y * s.w - s.y * r.w) := by grind
  rw [e]
  have b := hB r mr
  rcases h r mr with q | q
  · exact (n q).elim
  · unfold lt up wy at q
    simp only at q
    rcases q with q | ⟨q0, q⟩
    · have : B * 1 ≤ B * (r.x * s.w - s.x * r.w) := Int.mul_le_mul_of_nonneg_left (by omega) (by omega)
      omega
    · rw [q0, Int.mul_zero]
      omega
theorem Sep.ng {S : List Pt} {s : Pt} (h : Sep (S.map ng) (Pg.ng s)) : Sep S s := by
  obtain ⟨u, v, t, h1, h2⟩ := h
  have e : ∀ r : Pt, u * (Pg.ng r).x + v * (Pg.ng r).y + t * (Pg.ng r).w = -u * r.x + -v * r.y + t * r.w := fun r => by
    unfold Pg.ng
    grind
  refine ⟨-u, -v, t, by rw [← e, h1], fun r mr n => ?_⟩
  rw [← e]
  exact h2 _ (List.mem_map_of_mem mr) fun z => n (ng_inj z)
theorem fp_ng {p : Pt} (h : FP p) : FP (Pg.ng p) := ⟨h.pos, by
  have := h.2
  unfold g3 at this ⊢
  simpa [Pg.ng] using this⟩
theorem chain_sep {S : List Pt} (A : Asc S) (hF : ∀ r ∈ S, FP r) {s : Pt} (m : s ∈ chainS [] S) : Sep S s := by
  have ms := ((chain_mem A).mp m).1
  have ws := A.w s ms
  rcases chain_cases A m with h | h | ⟨a, c, I⟩
  · refine Sep.ng (first_sep ws fun r mr => ?_)
    obtain ⟨q, mq, rfl⟩ := List.mem_map.mp mr
    rcases h q mq with e | e
    · exact .inl (by rw [e])
    · exact .inr (lt_ng.mpr e)
  · exact first_sep ws h
  · exact inn_sep hF (hF s ms) I
theorem upper_sep {S : List Pt} (A : Asc S) (hF : ∀ r ∈ S, FP r) {s : Pt} (m : s ∈ chainS [] S.reverse) : Sep S s := by
  have z := chain_sep (asc_rev A) (fun r mr => by
    obtain ⟨q, mq, rfl⟩ := List.mem_map.mp mr
    exact fp_ng (hF q (List.mem_reverse.mp mq))) (back_chain m)
  refine Sep.ng (z.sub fun t mt => ?_)
  obtain ⟨q, mq, rfl⟩ := List.mem_map.mp mt
  exact List.mem_map_of_mem (List.mem_reverse.mpr mq)
/-! ### hulls of sets that are within one another -/
theorem exists_ord : ∀ {S : List Pt}, (∀ s ∈ S, FP s) → ∃ U, Ord S U
  | [], _ => ⟨[], .nil, fun t => Iff.rfl⟩
  | p :: S, h => by
    obtain ⟨U, O⟩ := exists_ord (S := S) fun s m => h s (List.mem_cons_of_mem _ m)
    have fp := h p List.mem_cons_self
    have fU : ∀ u ∈ U, FP u := fun u m => h u (List.mem_cons_of_mem _ ((O.mem u).mp m))
    by_cases hp : p ∈ U
    · refine ⟨U, O.asc, fun t => ?_⟩
      rw [O.mem, List.mem_cons]
      exact ⟨.inr, fun z => z.elim (fun e => by rw [e]; exact (O.mem p).mp hp) id⟩
    · refine ⟨U.filter (fun t => decide (lt t p)) ++ p :: U.filter (fun t => decide (lt p t)), ?_, fun t => ?_⟩
      · rw [List.pairwise_append, List.pairwise_cons]
        refine ⟨O.asc.filter _, ⟨fun a m => of_decide_eq_true (List.mem_filter.mp m).2, O.asc.filter _⟩, fun a ma b mb => ?_⟩
        have la : lt a p := of_decide_eq_true (List.mem_filter.mp ma).2
        have fa := fU a (List.mem_filter.mp ma).1
        rcases List.mem_cons.mp mb with e | mb
        · rw [e]
          exact la
        · exact lt_trans fa.w fp.w (fU b (List.mem_filter.mp mb).1).w la (of_decide_eq_true (List.mem_filter.mp mb).2)
      · rw [List.mem_append, List.mem_cons, List.mem_filter, List.mem_filter, List.mem_cons, O.mem]
        constructor
        · rintro (⟨m, _⟩ | e | ⟨m, _⟩)
          · exact .inr m
          · exact .inl e
          · exact .inr m
        · rintro (e | m)
          · exact .inr (.inl e)
          · rcases fp_cmp (h t (List.mem_cons_of_mem _ m)) fp with e | e | e
            · exact .inr (.inl e)
            · exact .inl ⟨m, decide_eq_true e⟩
            · exact .inr (.inr ⟨m, decide_eq_true e⟩)
theorem hull_big {T U : List Pt} (A : Asc U) (B : Asc T) (fU : ∀ u ∈ U, FP u) (sub : ∀ t ∈ T, t ∈ U) (cov : ∀ u ∈ U, Cv T u) : hullP T = hullP U := by
  have low : ∀ s ∈ chainS [] U, s ∈ T := fun s m => by
    have ms := ((chain_mem A).mp m).1
    exact sep_mem (A.w s ms) ((chain_sep A fU m).sub sub) (cov s ms)
  have hi : ∀ s ∈ chainS [] U.reverse, s ∈ T := fun s m => by
    have ms := ((upper_mem A).mp m).1
    exact sep_mem (A.w s ms) ((upper_sep A fU m).sub sub) (cov s ms)
  have l1 := asc_len (asc_nodup B.srt) sub
  by_cases n2 : U.length < 2
  · have eT : T = U := by
      match U, n2, A, sub, cov, l1 with
      | [], _, _, _, _, l1 => exact List.length_eq_zero_iff.mp (Nat.le_zero.mp l1)
      | [a], _, A, sub, cov, l1 =>
        match T, sub, cov, l1 with
        | [], _, cov, _ => exact (Cv.nil (A.w a List.mem_cons_self) (cov a List.mem_cons_self)).elim
        | [b], sub, _, _ => rw [List.mem_singleton.mp (sub b List.mem_cons_self)]
        | _ :: _ :: _, _, _, l1 => exact absurd l1 (by simp)
    rw [eT]
  · have n3 : ¬ T.length < 2 := fun l => by
      match U, n2, A, fU, sub, cov with
      | [], n2, _, _, _, _ => exact n2 (by decide)
      | [_], n2, _, _, _, _ => exact n2 (by simp)
      | a :: b :: r, _, A, fU, sub, cov =>
        have ma : a ∈ a :: b :: r := List.mem_cons_self
        have mb : b ∈ a :: b :: r := List.mem_cons_of_mem _ List.mem_cons_self
        match T, l, sub, cov with
        | [], _, _, cov => exact Cv.nil (A.w a ma) (cov a ma)
        | [c], _, sub, cov =>
          have fc := fU c (sub c List.mem_cons_self)
          have e1 := Cv.one fc (fU a ma) (cov a ma)
          have e2 := Cv.one fc (fU b mb) (cov b mb)
          have l := (List.pairwise_cons.mp A.srt).1 b List.mem_cons_self
          rw [e1, e2] at l
          exact lt_ir l
        | _ :: _ :: _, l, _, _ => exact absurd l (by simp)
    unfold hullP
    rw [if_neg n2, if_neg n3, chain_eq A B sub low, upper_eq A B sub hi]
theorem hull_same {S S' T T' : List Pt} (O : Ord S T) (O' : Ord S' T') (hF : ∀ s ∈ S, FP s) (hF' : ∀ s ∈ S', FP s) (c : ∀ s ∈ S, Cv S' s) (c' : ∀ s ∈ S', Cv S s) : hullP T = hullP T' := by
  have fA : ∀ s ∈ S ++ S', FP s := fun s m => (List.mem_append.mp m).elim (hF s) (hF' s)
  obtain ⟨U, OU⟩ := exists_ord fA
  have fU : ∀ u ∈ U, FP u := fun u m => fA u ((OU.mem u).mp m)
  have AU : Asc U := ⟨fun u m => (fU u m).w, OU.asc⟩
  have one : ∀ {X Y : List Pt}, Ord X Y → (∀ x ∈ X, x ∈ S ++ S') → (∀ s ∈ S ++ S', Cv X s) → hullP Y = hullP U := fun {X Y} OX sub cov => by
    refine hull_big AU ⟨fun y m => (fA y (sub y ((OX.mem y).mp m))).w, OX.asc⟩ fU (fun y m => (OU.mem y).mpr (sub y ((OX.mem y).mp m))) fun u m => ?_
    exact (cov u ((OU.mem u).mp m)).mono fun t mt => (OX.mem t).mpr mt
  rw [one O (fun x m => List.mem_append.mpr (.inl m)) fun s m => (List.mem_append.mp m).elim Cv.mem (c' s)]
  rw [one O' (fun x m => List.mem_append.mpr (.inr m)) fun s m => (List.mem_append.mp m).elim (c s) Cv.mem]
/-- all of a set is within its hull's corners -/
theorem hull_cov {S T : List Pt} (hS : ∀ s ∈ S, GP s) (n : S ≠ []) (O : Ord S T) : ∀ s ∈ S, Cv (hullP T) s := fun s m => by
  obtain ⟨PH, mH, _⟩ := plateH_of hS n O
  have A : Asc T := ⟨fun t m => (hS t ((O.mem t).mp m)).1.w, O.asc⟩
  exact has_to_cv PH.toPlateX (fun t mt => (hS t (mH t mt)).1) (hS s m).1.w (hull_has A ((O.mem s).mpr m))
theorem hull_cv {S T : List Pt} (hS : ∀ s ∈ S, GP s) (n : S ≠ []) (O : Ord S T) {p : Pt} : Cv (hullP T) p ↔ Cv S p :=
  ⟨fun h => h.mono (plateH_of hS n O).2.1, fun h => h.trans (hull_cov hS n O)⟩
/-- the hull of a plate's corners is the plate -/
theorem PlateH.idem {H T : List Pt} (P : PlateH H) (O : Ord H T) : hullP T = H := by
  obtain ⟨T0, A0, _, e⟩ := P.hul
  have O2 : Ord (hullP T0) T := e ▸ O
  rw [hull_idem A0 O2, e]
end Pg
/-! Pg38: maps, places and plates led. -/
namespace Pg
open PySem PySem.Spec PyProof.Rows L2
section
variable {K : PySem.W.Frag} {F : Fx}
theorem od_repT : OpD K F (rRepT K) (fun d e P => ∃ ds k, d = .tuple ds ∧ e = .int k ∧ ds ≠ [] ∧ 2 ≤ k ∧ k ≤ 1000 ∧ ds.length ≤ 1000 ∧ P (.tuple (List.replicate k.toNat ds).flatten)) :=
  ⟨fun O H σ δ x y d e P Q S t1 t2 ⟨ds, k, h1, h2, hn, k0, k1, hl, p⟩ q => by
    subst h1 h2
    cases t2
    cases t1 with
    | tup s1 u1 =>
      refine ⟨_, k, _, rfl, rfl, s1.sq, fun e => hn ?_, k0, k1, by rw [u1.length]; exact hl, fun p' np => ?_⟩
      · have := u1.length
        rw [e] at this
        exact List.length_eq_zero_iff.mp this.symm
      · exact q _ _ _ (.new np) (S.new np) (.tup (.of (S.fresh np) upd_same) ((u1.flat _).stp ((Kp.new np).stp S.bs.ok))) p⟩
theorem op_repTK {X : Cx} (h : X.K = K) : OpR X (binaryOp .Mult) (rRepT K) := by
  subst h
  exact op_repT
end
/-- a place in its form, as a Pt -/
def pN (x y d : Int) : Pt := ptOf (plD x y d)
theorem pN_ok {x y d : Int} (hd : 0 < d) : plD x y d = pD (pN x y d) ∧ FP (pN x y d) ∧ ∃ k, 0 < k ∧ x = k * (pN x y d).x ∧ y = k * (pN x y d).y ∧ d = k * (pN x y d).w ∧ (pN x y d).x.natAbs ≤ x.natAbs ∧ (pN x y d).y.natAbs ≤ y.natAbs ∧ (pN x y d).w.natAbs ≤ d.natAbs := by
  obtain ⟨X, Y, D, k, e, P, hk, kp, ex, ey, ed, lx, ly, ld⟩ := plD_form (x := x) (y := y) (d := d) (by omega)
  have e2 : pN x y d = ⟨X, Y, D⟩ := by
    unfold pN
    rw [e]
    rfl
  rw [e2]
  exact ⟨e, P, k, kp hd, ex, ey, ed, lx, ly, ld⟩
/-- small places -/
structure Bk (i j : Nat) (p : Pt) : Prop where
  f : FP p
  x : p.x.natAbs < 2 ^ i
  y : p.y.natAbs < 2 ^ i
  w : p.w.natAbs < 2 ^ j
theorem Bk.up {i j i' j' : Nat} {p : Pt} (h : Bk i j p) (hi : i ≤ i') (hj : j ≤ j') : Bk i' j' p := ⟨h.f, abs_up h.x hi, abs_up h.y hi, abs_up h.w hj⟩
theorem Bk.gp {i j : Nat} {p : Pt} (h : Bk i j p) (hi : i ≤ 140) (hj : j ≤ 140) : GP p := ⟨h.f, abs_up h.x hi, abs_up h.y hi, abs_up h.w hj⟩
structure Mp where
  a : Int
  b : Int
  c : Int
  d : Int
  e : Int
  f : Int
  n : Int
def mD (m : Mp) : PyData := .tuple [.int m.a, .int m.b, .int m.c, .int m.d, .int m.e, .int m.f, .int m.n]
def mpP (m : Mp) (p : Pt) : Pt := pN (m.a * p.x + m.b * p.y + m.e * p.w) (m.c * p.x + m.d * p.y + m.f * p.w) (m.n * p.w)
theorem abs_three {a b c x y z : Int} {k i : Nat} (h1 : a.natAbs < 2 ^ k) (h2 : b.natAbs < 2 ^ k) (h3 : c.natAbs < 2 ^ k) (hx : x.natAbs < 2 ^ i) (hy : y.natAbs < 2 ^ i) (hz : z.natAbs < 2 ^ i) : (a * x + b * y + c * z).natAbs < 2 ^ (k + i + 2) := by
  have e1 := wide_lt h1 hx
  have e2 := wide_lt h2 hy
  have e3 := wide_lt h3 hz
  have e4 := abs_add e1 e2
  have e5 := abs_add e4 (abs_up e3 (Nat.le_succ _))
  exact e5
/-! ### what is a map -/
def g7 (xs : List Int) : Nat := xs.foldl (fun g x => Nat.gcd g x.natAbs) 0
def isMap (d : PyData) : Bool := match d with
  | .tuple [.int a, .int b, .int c, .int d, .int e, .int f, .int n] => decide (g7 [a, b, c, d, e, f, n] = 1) && decide (0 < n)
  | _ => false
theorem GP.l5 {p : Pt} (h : GP p) : L5 p := ⟨sm_500 h.2.1, sm_500 h.2.2.1, sm_500 h.2.2.2⟩
end Pg
/-! Pg39: sums of places, plates put together, mirrored. Plain Lean. -/
namespace Pg
open PySem PySem.Spec PyProof.Rows L2
def sumP (p q : Pt) : Pt := pN (p.x * q.w + q.x * p.w) (p.y * q.w + q.y * p.w) (p.w * q.w)
def sums (A B : List Pt) : List Pt := A.flatMap fun a => B.map (sumP a)
/-! ### plates of sums -/
end Pg
/-! Pg40: comprehensions with two fors. -/
namespace Pg
open PySem PySem.Spec PyProof.Rows L2
section
variable {K : PySem.W.Frag} {F : Fx} {O : Ow} {σ : L2.St} {δ : Se} {te : TE}
end
end Pg
/-! Pg41: how many corners the sum of two plates has. Plain Lean. -/
namespace Pg
open PySem PySem.Spec PyProof.Rows L2
theorem pigeon {α β : Type} (R : α → β → Prop) : ∀ (X : List α) (Y : List β), X.Nodup → (∀ x ∈ X, ∃ y ∈ Y, R x y) → (∀ x ∈ X, ∀ x' ∈ X, ∀ y ∈ Y, R x y → R x' y → x = x') → X.length ≤ Y.length
  | [], _, _, _, _ => Nat.zero_le _
  | x :: X, Y, nd, ex, inj => by
    obtain ⟨n1, n2⟩ := List.nodup_cons.mp nd
    obtain ⟨y, my, r⟩ := ex x List.mem_cons_self
    obtain ⟨Y1, Y2, rfl⟩ := List.append_of_mem my
    have ih := pigeon R X (Y1 ++ Y2) n2 (fun x' m' => by
      obtain ⟨y', my', r'⟩ := ex x' (List.mem_cons_of_mem _ m')
      rcases List.mem_append.mp my' with z | z
      · exact ⟨y', List.mem_append.mpr (.inl z), r'⟩
      · rcases List.mem_cons.mp z with e | z
        · subst e
          have := inj x List.mem_cons_self x' (List.mem_cons_of_mem _ m') y' my r r'
          subst this
          exact (n1 m').elim
        · exact ⟨y', List.mem_append.mpr (.inr z), r'⟩) fun a ma b mb c mc => inj a (List.mem_cons_of_mem _ ma) b (List.mem_cons_of_mem _ mb) c (by
      rcases List.mem_append.mp mc with z | z
      · exact List.mem_append.mpr (.inl z)
      · exact List.mem_append.mpr (.inr (List.mem_cons_of_mem _ z)))
    rw [List.length_append] at ih ⊢
    rw [List.length_cons, List.length_cons]
    omega
/-! ### directions of sides -/
def cu (a b : Pt) : Int := a.y * b.w - a.w * b.y
def cv (a b : Pt) : Int := a.w * b.x - a.x * b.w
def ct (a b : Pt) : Int := a.x * b.y - a.y * b.x
theorem dt_c (a b r : Pt) : dt a b r = cu a b * r.x + cv a b * r.y + ct a b * r.w := dt_lin a b r
theorem c_flip (a b : Pt) : cu b a = -cu a b ∧ cv b a = -cv a b ∧ ct b a = -ct a b := by
  unfold cu cv ct
  exact ⟨by grind, by grind, by grind⟩
theorem c_nz {a b : Pt} (ha : FP a) (hb : FP b) (n : a ≠ b) : ¬ (cu a b = 0 ∧ cv a b = 0) := fun ⟨h1, h2⟩ => by
  unfold cu at h1
  unfold cv at h2
  rcases fp_cmp ha hb with e | e | e
  · exact n e
  · unfold lt up wy at e
    simp only at e
    have e1 : b.x * a.w - a.x * b.w = a.w * b.x - a.x * b.w := by grind
    have e2 : b.y * a.w - a.y * b.w = -(a.y * b.w - a.w * b.y) := by grind
    omega
  · unfold lt up wy at e
    simp only at e
    have e1 : a.x * b.w - b.x * a.w = -(a.w * b.x - a.x * b.w) := by grind
    have e2 : a.y * b.w - b.y * a.w = a.y * b.w - a.w * b.y := by grind
    omega
/-- one direction -/
def SD (u v u' v' : Int) : Prop := ∃ α β : Int, 0 < α ∧ 0 < β ∧ α * u = β * u' ∧ α * v = β * v'
theorem SD.symm {u v u' v' : Int} (h : SD u v u' v') : SD u' v' u v := by
  obtain ⟨α, β, a, b, h1, h2⟩ := h
  exact ⟨β, α, b, a, h1.symm, h2.symm⟩
theorem SD.trans {u v u' v' u2 v2 : Int} (h : SD u v u' v') (h' : SD u' v' u2 v2) : SD u v u2 v2 := by
  obtain ⟨α, β, a, b, h1, h2⟩ := h
  obtain ⟨γ, δ, c, d, h3, h4⟩ := h'
  refine ⟨α * γ, β * δ, Int.mul_pos a c, Int.mul_pos b d, ?_, ?_⟩
  · have : α * γ * u = γ * (α * u) := by grind
    rw [this, h1]
    have : γ * (β * u') = β * (γ * u') := by grind
    rw [this, h3]
    grind
  · have : α * γ * v = γ * (α * v) := by grind
    rw [this, h2]
    have : γ * (β * v') = β * (γ * v') := by grind
    rw [this, h4]
    grind
theorem next_of {z : Pt} : ∀ (L : List Pt), ∀ x ∈ L, ∃ y, (x, y) ∈ prs (L ++ [z])
  | [], _, m => by cases m
  | [a], x, m => ⟨z, by rw [List.mem_singleton.mp m]; exact List.mem_cons_self⟩
  | a :: b :: r, x, m => by
    rcases List.mem_cons.mp m with e | m
    · exact ⟨b, by rw [e]; exact List.mem_cons_self⟩
    · obtain ⟨y, h⟩ := next_of (z := z) (b :: r) x m
      exact ⟨y, List.mem_cons_of_mem _ h⟩
theorem sq_nn (x : Int) : 0 ≤ x * x := by
  rcases Int.le_total 0 x with h | h
  · exact Int.mul_nonneg h h
  · have : x * x = (-x) * (-x) := by grind
    rw [this]
    exact Int.mul_nonneg (by omega) (by omega)
theorem side_next {A : List Pt} (n : A ≠ []) {x : Pt} (m : x ∈ A) : ∃ y ∈ A, (x, y) ∈ prs (A ++ A.take 1) := by
  cases A with
  | nil => exact (n rfl).elim
  | cons a r =>
    obtain ⟨y, h⟩ := next_of (z := a) (a :: r) x m
    refine ⟨y, ?_, h⟩
    have this : y ∈ a :: r ++ [a] := (prs_in _ h).2
    rcases List.mem_append.mp this with z | z
    · exact z
    · rw [List.mem_singleton.mp z]
      exact List.mem_cons_self
/-- a line that holds a plate and goes through two of its corners goes along a side -/
theorem side_of {A : List Pt} (X : PlateX A) (hF : ∀ s ∈ A, FP s) {a b : Pt} (ma : a ∈ A) (mb : b ∈ A) (n : a ≠ b) {u v t : Int} (nz : ¬ (u = 0 ∧ v = 0)) (h : ∀ s ∈ A, 0 ≤ u * s.x + v * s.y + t * s.w)
    (ea : u * a.x + v * a.y + t * a.w = 0) (eb : u * b.x + v * b.y + t * b.w = 0) : ∃ pr ∈ prs (A ++ A.take 1), pr.1 ≠ pr.2 ∧ SD u v (cu pr.1 pr.2) (cv pr.1 pr.2) := by
  have key : ∀ {a b : Pt}, a ∈ A → b ∈ A → a ≠ b → u * a.x + v * a.y + t * a.w = 0 → u * b.x + v * b.y + t * b.w = 0 → 0 < u * cu a b + v * cv a b → ∃ pr ∈ prs (A ++ A.take 1), pr.1 ≠ pr.2 ∧ SD u v (cu pr.1 pr.2) (cv pr.1 pr.2) := by
    intro a b ma mb n ea eb s0
    have q1 : u * cv a b = v * cu a b := by unfold cu cv; grind
    have q2 : u * ct a b = t * cu a b := by unfold cu ct; grind
    have q3 : v * ct a b = t * cv a b := by unfold cv ct; grind
    have sq : 0 < cu a b * cu a b + cv a b * cv a b := by
      have nz := c_nz (hF a ma) (hF b mb) n
      have h1 := sq_nn (cu a b)
      have h2 := sq_nn (cv a b)
      by_cases z : cu a b * cu a b + cv a b * cv a b = 0
      · exact (nz ⟨by
          have : cu a b * cu a b = 0 := by omega
          rcases Int.mul_eq_zero.mp this with e | e <;> exact e, by
          have : cv a b * cv a b = 0 := by omega
          rcases Int.mul_eq_zero.mp this with e | e <;> exact e⟩).elim
      · omega
    obtain ⟨c, mc, hc⟩ := side_next X.ne ma
    have all : ∀ s ∈ A, 0 ≤ dt a b s := fun s ms => by
      refine nonneg_of s0 ?_
      have e : (u * cu a b + v * cv a b) * dt a b s = (cu a b * cu a b + cv a b * cv a b) * (u * s.x + v * s.y + t * s.w) := by
        rw [dt_c]
        grind
      rw [e]
      exact Int.mul_nonneg (Int.le_of_lt sq) (h s ms)
    have two : 2 ≤ A.length := by
      match A, ma, mb with
      | [], ma, _ => cases ma
      | [x], ma, mb => exact (n ((List.mem_singleton.mp ma).trans (List.mem_singleton.mp mb).symm)).elim
      | _ :: _ :: _, _, _ => simp
    have nac : a ≠ c := round_ne X.nd two _ hc
    by_cases e : c = b
    · subst e
      refine ⟨_, hc, n, cu a c * cu a c + cv a c * cv a c, u * cu a c + v * cv a c, sq, s0, ?_, ?_⟩
      · show _ = _ * cu a c
        grind
      · show _ = _ * cv a c
        grind
    · exfalso
      have d0 : 0 ≤ dt a c b := X.edg _ hc b mb
      have d1 : dt a c b ≠ 0 := fun z => by
        rcases side_strict X hF ma mc mb nac z with q | q
        · exact n q.symm
        · exact e q.symm
      have d2 := all c mc
      rw [dt_swap a c b] at d2
      omega
  have s1 : u * cu a b + v * cv a b ≠ 0 := fun z => by
    have q1 : u * cv a b = v * cu a b := by unfold cu cv; grind
    have nz2 := c_nz (hF a ma) (hF b mb) n
    have e1 : (u * u + v * v) * cu a b = 0 := by grind
    have e2 : (u * u + v * v) * cv a b = 0 := by grind
    have h1 := sq_nn u
    have h2 := sq_nn v
    have sq : u * u + v * v ≠ 0 := fun z => nz ⟨by
      have : u * u = 0 := by omega
      rcases Int.mul_eq_zero.mp this with e | e <;> exact e, by
      have : v * v = 0 := by omega
      rcases Int.mul_eq_zero.mp this with e | e <;> exact e⟩
    exact nz2 ⟨(Int.mul_eq_zero.mp e1).resolve_left sq, (Int.mul_eq_zero.mp e2).resolve_left sq⟩
  by_cases s2 : 0 < u * cu a b + v * cv a b
  · exact key ma mb n ea eb s2
  · refine key mb ma n.symm eb ea ?_
    obtain ⟨f1, f2, _⟩ := c_flip a b
    rw [f1, f2]
    have : u * -cu a b + v * -cv a b = -(u * cu a b + v * cv a b) := by grind
    omega
theorem prs_nodup : ∀ {L : List Pt} {z : Pt}, L.Nodup → (prs (L ++ [z])).Nodup
  | [], _, _ => .nil
  | [a], z, _ => by
    show [(a, z)].Nodup
    exact List.nodup_cons.mpr ⟨fun m => (by cases m), .nil⟩
  | a :: b :: r, z, nd => by
    obtain ⟨n1, n2⟩ := List.nodup_cons.mp nd
    show ((a, b) :: prs (b :: r ++ [z])).Nodup
    refine List.nodup_cons.mpr ⟨fun m => ?_, prs_nodup n2⟩
    have first : ∀ {L : List Pt}, ∀ pr ∈ prs (L ++ [z]), pr.1 ∈ L := by
      intro L
      induction L with
      | nil => exact fun pr m => by cases m
      | cons x l ih =>
        intro pr m
        cases l with
        | nil =>
          rw [List.mem_singleton.mp m]
          exact List.mem_cons_self
        | cons y l' =>
          rcases List.mem_cons.mp m with e | m
          · rw [e]
            exact List.mem_cons_self
          · exact List.mem_cons_of_mem _ (ih pr m)
    exact n1 (first _ m)
theorem sides_nodup {S : List Pt} (nd : S.Nodup) : (prs (S ++ S.take 1)).Nodup := by
  cases S with
  | nil => exact .nil
  | cons a r => exact prs_nodup nd
end Pg
/-! Pg42: what put and mirror tell. -/
namespace Pg
open PySem PySem.Spec PyProof.Rows L2
def gPut (ds : List PyData) (P : PyData → Prop) : Prop := ∃ A B : List Pt, ds = [.tuple (A.map pD), .tuple (B.map pD)] ∧ A ≠ [] ∧ B ≠ [] ∧ A.length ≤ 100 ∧ B.length ≤ 100 ∧ (∀ s ∈ A, Bk 100 100 s) ∧ (∀ s ∈ B, Bk 100 100 s) ∧ Pls (sums A B) ∧ ∀ U : List Pt, Ord (sums A B) U → P (.tuple ((hullP U).map pD))
end Pg
/-! Pg43: directions in lists and in round order, tops of plates with far places, far pools. -/
namespace Pg
open PySem PySem.Spec PyProof.Rows L2
/-! ### directions in lists -/
def isDr (w : PyData) : Prop := ∃ e f : Int, w = fr e f ∧ Dr e f
def isDk (k : Nat) (w : PyData) : Prop := ∃ e f : Int, w = fr e f ∧ Dr e f ∧ e.natAbs < 2 ^ k ∧ f.natAbs < 2 ^ k
theorem isDk.dr {k : Nat} {w : PyData} (h : isDk k w) : isDr w := by
  obtain ⟨e, f, a, b, _⟩ := h
  exact ⟨e, f, a, b⟩
/-! ### tops, at any size -/
abbrev B300 (x : Int) : Prop := x.natAbs < 2 ^ 300
def gBelowE (ds : List PyData) (P : PyData → Prop) : Prop := ∃ p q r t, ds = [fr p q, fr r t] ∧ B300 p ∧ B300 q ∧ B300 r ∧ B300 t ∧ P (.bool (decide (p * t < r * q)))
/-! ### far pools, sums -/
end Pg
/-! Pg44: putting hulls together, mirrored hulls. -/
namespace Pg
open PySem PySem.Spec PyProof.Rows L2
end Pg
/-! Pg46: tops and farthest corners, plates moved, half planes met. -/
namespace Pg
open PySem PySem.Spec PyProof.Rows L2
/-! ### tops -/
def isTop (H : List Pt) (A B : Int) (s : Pt) : Prop := s ∈ H ∧ ∀ r ∈ H, hN A B r * s.w ≤ hN A B s * r.w
theorem isTop.mem {H : List Pt} {A B : Int} {s : Pt} (h : isTop H A B s) : s ∈ H := h.1
theorem isTop.eq {H : List Pt} {A B : Int} {s t : Pt} (w : ∀ r ∈ H, 0 < r.w) (h : isTop H A B s) (k : isTop H A B t) : frD (hN A B s) s.w = frD (hN A B t) t.w := by
  have ws := w s h.1
  have wt := w t k.1
  refine frD_cong (by omega) (by omega) ?_
  have h1 := h.2 t k.1
  have h2 := k.2 s h.1
  omega
/-! ### sides by their normals -/
/-! ### plates moved -/
/-! ### half planes met -/
/-! ### normals -/
end Pg
/-! Pg47: plates cut by half planes, in plain Lean. -/
namespace Pg
open PySem PySem.Spec PyProof.Rows L2
theorem exists_min {α : Type} (f g : α → Int) : ∀ {l : List α}, l ≠ [] → (∀ x ∈ l, 0 < g x) → ∃ x ∈ l, ∀ y ∈ l, f x * g y ≤ f y * g x
  | [], n, _ => (n rfl).elim
  | [a], _, _ => ⟨a, List.mem_cons_self, fun y m => by rw [List.mem_singleton.mp m]; exact Int.le_refl _⟩
  | a :: b :: r, _, h => by
    obtain ⟨x, mx, hx⟩ := exists_min f g (l := b :: r) (by simp) fun y m => h y (List.mem_cons_of_mem _ m)
    have ga := h a List.mem_cons_self
    have gx := h x (List.mem_cons_of_mem _ mx)
    by_cases c : f x * g a ≤ f a * g x
    · refine ⟨x, List.mem_cons_of_mem _ mx, fun y m => ?_⟩
      rcases List.mem_cons.mp m with e | m
      · rw [e]; exact c
      · exact hx y m
    · refine ⟨a, List.mem_cons_self, fun y m => ?_⟩
      rcases List.mem_cons.mp m with e | m
      · rw [e]; exact Int.le_refl _
      · have gy := h y (List.mem_cons_of_mem _ m)
        refine Int.le_of_mul_le_mul_right (a := g x) ?_ gx
        have h1 := Int.mul_le_mul_of_nonneg_right (Int.le_of_lt (Int.not_le.mp c)) (Int.le_of_lt gy)
        have h2 := Int.mul_le_mul_of_nonneg_right (hx y m) (Int.le_of_lt ga)
        have e1 : f a * g y * g x = f a * g x * g y := by grind
        have e2 : f x * g a * g y = f x * g y * g a := by grind
        have e3 : f y * g a * g x = f y * g x * g a := by grind
        omega
/-! ### how far within -/
def dpt (a b c : Int) (p : Pt) : Int := a * p.x + b * p.y - c * p.w
abbrev lf (u v t : Int) (p : Pt) : Int := u * p.x + v * p.y + t * p.w
/-- what a look at the crossing of two places comes to, times something above 0 -/
def crv (a b c u v t : Int) (p q : Pt) : Int := dpt a b c p * lf u v t q - dpt a b c q * lf u v t p
def crw (a b c : Int) (p q : Pt) : Int := dpt a b c p * q.w - dpt a b c q * p.w
theorem cr_id1 (Dp Dq pw qw fp fq Dr fr rw' : Int) : (Dp * qw - Dq * pw) * (Dr * fq - Dq * fr) - (Dp * fq - Dq * fp) * (Dr * qw - Dq * rw') = -Dq * ((Dp * qw - Dq * pw) * fr - (qw * fp - pw * fq) * Dr - (Dp * fq - Dq * fp) * rw') := by grind
theorem cr_id2 (Dp Dq pw qw fp fq Dr fr rw' : Int) : (Dp * qw - Dq * pw) * (Dp * fr - Dr * fp) - (Dp * fq - Dq * fp) * (Dp * rw' - Dr * pw) = Dp * ((Dp * qw - Dq * pw) * fr - (qw * fp - pw * fq) * Dr - (Dp * fq - Dq * fp) * rw') := by grind
theorem cr_id3 (Dp Dq pw qw fp fq : Int) : (Dp * qw - Dq * pw) * fp - (qw * fp - pw * fq) * Dp - (Dp * fq - Dq * fp) * pw = 0 ∧ (Dp * qw - Dq * pw) * fq - (qw * fp - pw * fq) * Dq - (Dp * fq - Dq * fp) * qw = 0 := by
  constructor <;> grind
/-- a row with other signs has neighbours with other signs -/
theorem sign_change (f : Pt → Int) : ∀ (L : List Pt) (a : Pt), (∀ x ∈ a :: L, f x ≠ 0) → 0 < f a → (∃ x ∈ L, f x < 0) → ∃ pr ∈ prs (a :: L), 0 < f pr.1 ∧ f pr.2 < 0
  | [], _, _, _, ⟨x, m, _⟩ => by cases m
  | b :: r, a, nz, ha, ⟨x, m, hx⟩ => by
    by_cases c : f b < 0
    · exact ⟨(a, b), List.mem_cons_self, ha, c⟩
    · have nb := nz b (List.mem_cons_of_mem _ List.mem_cons_self)
      have mx : x ∈ r := by
        rcases List.mem_cons.mp m with e | m
        · rw [e] at hx
          exact (c hx).elim
        · exact m
      obtain ⟨pr, mp, h⟩ := sign_change f r b (fun y m => nz y (List.mem_cons_of_mem _ m)) (by omega) ⟨x, mx, hx⟩
      exact ⟨pr, List.mem_cons_of_mem _ mp, h⟩
theorem prs_round {H : List Pt} : ∀ pr ∈ prs H, pr ∈ prs (H ++ H.take 1) := by
  cases H with
  | nil => intro pr m; cases m
  | cons a r => exact fun pr m => prs_snoc (a :: r) a pr m
section
variable {H : List Pt} {a b c u v t : Int}
theorem cross_all (X : PlateX H) (hF : ∀ s ∈ H, FP s) (hin : ∀ r ∈ H, 0 ≤ dpt a b c r → 0 ≤ lf u v t r)
    (hnb : ∀ pr ∈ prs (H ++ H.take 1), (0 < dpt a b c pr.1 → dpt a b c pr.2 < 0 → 0 ≤ crv a b c u v t pr.1 pr.2) ∧ (0 < dpt a b c pr.2 → dpt a b c pr.1 < 0 → 0 ≤ crv a b c u v t pr.2 pr.1))
    {p q : Pt} (mp : p ∈ H) (mq : q ∈ H) (dp : 0 < dpt a b c p) (dq : dpt a b c q < 0) : 0 ≤ crv a b c u v t p q := by
  have wH : ∀ s ∈ H, 0 < s.w := fun s m => (hF s m).w
  have cw : ∀ {p q : Pt}, p ∈ H → q ∈ H → 0 < dpt a b c p → dpt a b c q < 0 → 0 < crw a b c p q := fun {p q} mp mq dp dq => by
    have h1 := Int.mul_pos dp (wH q mq)
    have h2 := Int.mul_pos (Int.neg_pos_of_neg dq) (wH p mp)
    rw [Int.neg_mul] at h2
    unfold crw
    omega
  by_cases neg : 0 ≤ crv a b c u v t p q
  · exact neg
  exfalso
  -- the least pair
  obtain ⟨⟨p0, q0⟩, m0, hmin⟩ := exists_min (fun pr : Pt × Pt => crv a b c u v t pr.1 pr.2) (fun pr => crw a b c pr.1 pr.2)
    (l := (H.filter fun r => decide (0 < dpt a b c r)).flatMap fun r => (H.filter fun s => decide (dpt a b c s < 0)).map fun s => (r, s))
    (fun e => by
      have : (p, q) ∈ (H.filter fun r => decide (0 < dpt a b c r)).flatMap fun r => (H.filter fun s => decide (dpt a b c s < 0)).map fun s => (r, s) :=
        List.mem_flatMap.mpr ⟨p, List.mem_filter.mpr ⟨mp, decide_eq_true dp⟩, List.mem_map.mpr ⟨q, List.mem_filter.mpr ⟨mq, decide_eq_true dq⟩, rfl⟩⟩
      rw [e] at this
      cases this)
    (fun pr m => by
      obtain ⟨r, mr, ms0⟩ := List.mem_flatMap.mp m
      obtain ⟨s, ms, rfl⟩ := List.mem_map.mp ms0
      exact cw (List.mem_filter.mp mr).1 (List.mem_filter.mp ms).1 (of_decide_eq_true (List.mem_filter.mp mr).2) (of_decide_eq_true (List.mem_filter.mp ms).2))
  have hmin' : ∀ {r s : Pt}, r ∈ H → s ∈ H → 0 < dpt a b c r → dpt a b c s < 0 → crv a b c u v t p0 q0 * crw a b c r s ≤ crv a b c u v t r s * crw a b c p0 q0 := fun {r s} mr ms hr hs =>
    hmin (r, s) (List.mem_flatMap.mpr ⟨r, List.mem_filter.mpr ⟨mr, decide_eq_true hr⟩, List.mem_map.mpr ⟨s, List.mem_filter.mpr ⟨ms, decide_eq_true hs⟩, rfl⟩⟩)
  obtain ⟨r, mr, ms0⟩ := List.mem_flatMap.mp m0
  obtain ⟨s, ms, e0⟩ := List.mem_map.mp ms0
  cases e0
  have mp0 := (List.mem_filter.mp mr).1
  have mq0 := (List.mem_filter.mp ms).1
  have dp0 : 0 < dpt a b c p0 := of_decide_eq_true (List.mem_filter.mp mr).2
  have dq0 : dpt a b c q0 < 0 := of_decide_eq_true (List.mem_filter.mp ms).2
  have W0 := cw mp0 mq0 dp0 dq0
  have F0 : crv a b c u v t p0 q0 < 0 := by
    have h1 := hmin' mp mq dp dq
    have h2 := cw mp mq dp dq
    have h3 : crv a b c u v t p q * crw a b c p0 q0 < 0 := Int.mul_neg_of_neg_of_pos (by omega) W0
    by_cases z : crv a b c u v t p0 q0 < 0
    · exact z
    · have := Int.mul_nonneg (show 0 ≤ crv a b c u v t p0 q0 by omega) (Int.le_of_lt h2)
      omega
  -- the line through p0 and q0
  have hL : ∀ r ∈ H, 0 ≤ crw a b c p0 q0 * lf u v t r - (q0.w * lf u v t p0 - p0.w * lf u v t q0) * dpt a b c r - crv a b c u v t p0 q0 * r.w ∧ (dpt a b c r = 0 → 0 < crw a b c p0 q0 * lf u v t r - (q0.w * lf u v t p0 - p0.w * lf u v t q0) * dpt a b c r - crv a b c u v t p0 q0 * r.w) := fun r mr => by
    have z0 : dpt a b c r = 0 → 0 < crw a b c p0 q0 * lf u v t r - (q0.w * lf u v t p0 - p0.w * lf u v t q0) * dpt a b c r - crv a b c u v t p0 q0 * r.w := fun z => by
      have h1 := Int.mul_nonneg (Int.le_of_lt W0) (hin r mr (by omega))
      have h2 := Int.mul_pos (Int.neg_pos_of_neg F0) (wH r mr)
      rw [Int.neg_mul] at h2
      rw [z, Int.mul_zero]
      omega
    refine ⟨?_, z0⟩
    rcases Int.lt_trichotomy (dpt a b c r) 0 with z | z | z
    · have h1 := hmin' mp0 mr dp0 z
      have i := cr_id2 (dpt a b c p0) (dpt a b c q0) p0.w q0.w (lf u v t p0) (lf u v t q0) (dpt a b c r) (lf u v t r) r.w
      refine nonneg_of dp0 ?_
      have e : dpt a b c p0 * (crw a b c p0 q0 * lf u v t r - (q0.w * lf u v t p0 - p0.w * lf u v t q0) * dpt a b c r - crv a b c u v t p0 q0 * r.w) = crw a b c p0 q0 * crv a b c u v t p0 r - crv a b c u v t p0 q0 * crw a b c p0 r := i.symm
      rw [e, Int.mul_comm (crw a b c p0 q0)]
      omega
    · exact Int.le_of_lt (z0 z)
    · have h1 := hmin' mr mq0 z dq0
      have i := cr_id1 (dpt a b c p0) (dpt a b c q0) p0.w q0.w (lf u v t p0) (lf u v t q0) (dpt a b c r) (lf u v t r) r.w
      refine nonneg_of (Int.neg_pos_of_neg dq0) ?_
      have e : -dpt a b c q0 * (crw a b c p0 q0 * lf u v t r - (q0.w * lf u v t p0 - p0.w * lf u v t q0) * dpt a b c r - crv a b c u v t p0 q0 * r.w) = crw a b c p0 q0 * crv a b c u v t r q0 - crv a b c u v t p0 q0 * crw a b c r q0 := i.symm
      rw [e, Int.mul_comm (crw a b c p0 q0)]
      omega
  obtain ⟨zp, zq⟩ := cr_id3 (dpt a b c p0) (dpt a b c q0) p0.w q0.w (lf u v t p0) (lf u v t q0)
  have zp : crw a b c p0 q0 * lf u v t p0 - (q0.w * lf u v t p0 - p0.w * lf u v t q0) * dpt a b c p0 - crv a b c u v t p0 q0 * p0.w = 0 := zp
  have zq : crw a b c p0 q0 * lf u v t q0 - (q0.w * lf u v t p0 - p0.w * lf u v t q0) * dpt a b c q0 - crv a b c u v t p0 q0 * q0.w = 0 := zq
  generalize eW : crw a b c p0 q0 = W at *
  generalize eF : crv a b c u v t p0 q0 = Φ at *
  generalize q0.w * lf u v t p0 - p0.w * lf u v t q0 = A at *
  have lin : ∀ r : Pt, W * lf u v t r - A * dpt a b c r - Φ * r.w = (W * u - A * a) * r.x + (W * v - A * b) * r.y + (W * t + A * c - Φ) * r.w := fun r => by
    unfold dpt lf
    grind
  by_cases nz : W * u - A * a = 0 ∧ W * v - A * b = 0
  · have l0 : ∀ r : Pt, W * lf u v t r - A * dpt a b c r - Φ * r.w = (W * t + A * c - Φ) * r.w := fun r => by
      rw [lin, nz.1, nz.2]
      omega
    have t0 : W * t + A * c - Φ = 0 := by
      have := l0 p0
      rw [zp] at this
      rcases Int.mul_eq_zero.mp this.symm with e | e
      · exact e
      · have := wH p0 mp0
        omega
    have all0 : ∀ r : Pt, W * lf u v t r - A * dpt a b c r - Φ * r.w = 0 := fun r => by rw [l0, t0, Int.zero_mul]
    have dn : ∀ r ∈ H, dpt a b c r ≠ 0 := fun r mr z => by
      have := (hL r mr).2 z
      rw [all0] at this
      omega
    have bad : ∀ x y : Pt, x ∈ H → y ∈ H → 0 < dpt a b c x → dpt a b c y < 0 → 0 ≤ crv a b c u v t x y → False := fun x y mx my hx hy h => by
      have ex := all0 x
      have ey := all0 y
      have cc := cw mx my hx hy
      have e : W * crv a b c u v t x y = Φ * crw a b c x y := by
        unfold crv crw
        have e1 : W * lf u v t x = A * dpt a b c x + Φ * x.w := by omega
        have e2 : W * lf u v t y = A * dpt a b c y + Φ * y.w := by omega
        generalize lf u v t x = fx at *
        generalize lf u v t y = fy at *
        generalize dpt a b c x = dx at *
        generalize dpt a b c y = dy at *
        have : W * (dx * fy - dy * fx) = dx * (W * fy) - dy * (W * fx) := by grind
        rw [this, e1, e2]
        grind
      have h1 := Int.mul_nonneg (Int.le_of_lt W0) h
      have h2 := Int.mul_neg_of_neg_of_pos F0 cc
      omega
    match H, mp0, mq0, dn, hnb, bad with
    | h0 :: rest, mp0, mq0, dn, hnb, bad =>
      by_cases c0 : 0 < dpt a b c h0
      · have mq' : q0 ∈ rest := by
          rcases List.mem_cons.mp mq0 with e | m
          · rw [e] at dq0
            omega
          · exact m
        obtain ⟨pr, mpr, h1, h2⟩ := sign_change (dpt a b c) rest h0 dn c0 ⟨q0, mq', dq0⟩
        have mr := prs_round _ mpr
        obtain ⟨m1, m2⟩ := prs_in _ mpr
        exact bad _ _ m1 m2 h1 h2 ((hnb pr mr).1 h1 h2)
      · have c1 : 0 < -dpt a b c h0 := by
          have := dn h0 List.mem_cons_self
          omega
        have mp' : p0 ∈ rest := by
          rcases List.mem_cons.mp mp0 with e | m
          · rw [e] at dp0
            omega
          · exact m
        obtain ⟨pr, mpr, h1, h2⟩ := sign_change (fun r => -dpt a b c r) rest h0 (fun x m z => dn x m (by omega)) c1 ⟨p0, mp', by omega⟩
        have mr := prs_round _ mpr
        obtain ⟨m1, m2⟩ := prs_in _ mpr
        exact bad _ _ m2 m1 (by omega) (by omega) ((hnb pr mr).2 (by omega) (by omega))
  · have pq : p0 ≠ q0 := fun e => by
      rw [e] at dp0
      omega
    have hL' : ∀ s ∈ H, 0 ≤ (W * u - A * a) * s.x + (W * v - A * b) * s.y + (W * t + A * c - Φ) * s.w := fun s ms => by
      rw [← lin]
      exact (hL s ms).1
    have zp' := zp
    have zq' := zq
    rw [lin] at zp' zq'
    obtain ⟨pr, mpr, ne, α, β, hα, hβ, e1, e2⟩ := side_of X hF mp0 mq0 pq nz hL' zp' zq'
    have m12 : pr.1 ∈ H ∧ pr.2 ∈ H := by
      obtain ⟨x, y⟩ := prs_in _ mpr
      refine ⟨?_, ?_⟩
      · rcases List.mem_append.mp x with m | m
        · exact m
        · exact List.mem_of_mem_take m
      · rcases List.mem_append.mp y with m | m
        · exact m
        · exact List.mem_of_mem_take m
    generalize W * u - A * a = U at *
    generalize W * v - A * b = V at *
    generalize W * t + A * c - Φ = T at *
    have dif : ∀ r : Pt, α * (U * r.x + V * r.y + T * r.w) - β * dt pr.1 pr.2 r = (α * T - β * ct pr.1 pr.2) * r.w := fun r => by
      rw [dt_c]
      grind
    have k0 : 0 ≤ α * T - β * ct pr.1 pr.2 := by
      have d := dif pr.1
      rw [(dt_pp pr.1 pr.2).1, Int.mul_zero, Int.sub_zero] at d
      have := Int.mul_nonneg (Int.le_of_lt hα) (hL' pr.1 m12.1)
      rw [d] at this
      have w1 := wH _ m12.1
      by_cases z : 0 ≤ α * T - β * ct pr.1 pr.2
      · exact z
      · have := Int.mul_neg_of_neg_of_pos (show α * T - β * ct pr.1 pr.2 < 0 by omega) w1
        omega
    have s0 : ∀ r ∈ H, U * r.x + V * r.y + T * r.w = 0 → dt pr.1 pr.2 r = 0 := fun r mr z => by
      have d := dif r
      rw [z, Int.mul_zero] at d
      have h1 := Int.mul_nonneg (Int.le_of_lt hβ) (X.edg pr mpr r mr)
      have h2 := Int.mul_nonneg k0 (Int.le_of_lt (wH r mr))
      have : β * dt pr.1 pr.2 r = 0 := by omega
      rcases Int.mul_eq_zero.mp this with e | e
      · omega
      · exact e
    have sp := side_strict X hF m12.1 m12.2 mp0 ne (s0 p0 mp0 zp')
    have sq := side_strict X hF m12.1 m12.2 mq0 ne (s0 q0 mq0 zq')
    have nb := hnb pr mpr
    rcases sp with sp | sp
    · rcases sq with sq | sq
      · exact pq (sp.trans sq.symm)
      · rw [← sp, ← sq] at nb
        have := nb.1 dp0 dq0
        omega
    · rcases sq with sq | sq
      · rw [← sp, ← sq] at nb
        have := nb.2 dp0 dq0
        omega
      · exact pq (sp.trans sq.symm)
/-- where all that is at least 0 at the corners within and at the crossings is so -/
theorem cut_main (X : PlateX H) (hF : ∀ s ∈ H, FP s) (hin : ∀ r ∈ H, 0 ≤ dpt a b c r → 0 ≤ lf u v t r)
    (hnb : ∀ pr ∈ prs (H ++ H.take 1), (0 < dpt a b c pr.1 → dpt a b c pr.2 < 0 → 0 ≤ crv a b c u v t pr.1 pr.2) ∧ (0 < dpt a b c pr.2 → dpt a b c pr.1 < 0 → 0 ≤ crv a b c u v t pr.2 pr.1))
    {m : Pt} (cm : Cv H m) (dm : 0 ≤ dpt a b c m) : 0 ≤ lf u v t m := by
  by_cases ex : ∃ q ∈ H, dpt a b c q < 0 ∧ lf u v t q < 0
  · obtain ⟨q1, m1, d1, f1⟩ := ex
    obtain ⟨q, mq, hq⟩ := exists_min (fun r => lf u v t r) (fun r => -dpt a b c r) (l := H.filter fun s => decide (dpt a b c s < 0))
      (fun e => by
        have : q1 ∈ H.filter fun s => decide (dpt a b c s < 0) := List.mem_filter.mpr ⟨m1, decide_eq_true d1⟩
        rw [e] at this
        cases this)
      (fun x mx => by
        have := of_decide_eq_true (List.mem_filter.mp mx).2
        omega)
    have dq : dpt a b c q < 0 := of_decide_eq_true (List.mem_filter.mp mq).2
    have mq := (List.mem_filter.mp mq).1
    have fq : lf u v t q < 0 := by
      have h1 := hq q1 (List.mem_filter.mpr ⟨m1, decide_eq_true d1⟩)
      have h2 := Int.mul_neg_of_neg_of_pos f1 (Int.neg_pos_of_neg dq)
      by_cases z : lf u v t q < 0
      · exact z
      · have := Int.mul_nonneg (show 0 ≤ lf u v t q by omega) (Int.le_of_lt (Int.neg_pos_of_neg d1))
        omega
    have lin : ∀ r : Pt, -dpt a b c q * lf u v t r + lf u v t q * dpt a b c r = (-dpt a b c q * u + lf u v t q * a) * r.x + (-dpt a b c q * v + lf u v t q * b) * r.y + (-dpt a b c q * t - lf u v t q * c) * r.w := fun r => by
      generalize dpt a b c q = dq
      generalize lf u v t q = fq
      unfold dpt lf
      grind
    have all : ∀ r ∈ H, 0 ≤ -dpt a b c q * lf u v t r + lf u v t q * dpt a b c r := fun r mr => by
      rcases Int.lt_trichotomy (dpt a b c r) 0 with z | z | z
      · have h1 := hq r (List.mem_filter.mpr ⟨mr, decide_eq_true z⟩)
        have e1 : lf u v t q * -dpt a b c r = -(lf u v t q * dpt a b c r) := by grind
        have e2 : lf u v t r * -dpt a b c q = -dpt a b c q * lf u v t r := by grind
        omega
      · have := Int.mul_nonneg (Int.le_of_lt (Int.neg_pos_of_neg dq)) (hin r mr (by omega))
        rw [z, Int.mul_zero]
        omega
      · have := cross_all X hF hin hnb mr mq z dq
        unfold crv at this
        have e1 : -dpt a b c q * lf u v t r = -(dpt a b c q * lf u v t r) := by grind
        have e2 : lf u v t q * dpt a b c r = dpt a b c r * lf u v t q := Int.mul_comm _ _
        omega
    have h := cm (-dpt a b c q * u + lf u v t q * a) (-dpt a b c q * v + lf u v t q * b) (-dpt a b c q * t - lf u v t q * c) fun s ms => by
      rw [← lin]
      exact all s ms
    rw [← lin] at h
    refine nonneg_of (Int.neg_pos_of_neg dq) ?_
    have := Int.mul_nonneg (Int.le_of_lt (Int.neg_pos_of_neg fq)) dm
    rw [Int.neg_mul] at this
    omega
  · refine cm u v t fun s ms => ?_
    by_cases z : 0 ≤ dpt a b c s
    · exact hin s ms z
    · by_cases y : 0 ≤ lf u v t s
      · exact y
      · exact (ex ⟨s, ms, by omega, by omega⟩).elim
end
/-! ### the crossing of a side and a line -/
def crP (a b c : Int) (p q : Pt) : Pt := pN (q.x * (dpt a b c p).natAbs + p.x * (dpt a b c q).natAbs) (q.y * (dpt a b c p).natAbs + p.y * (dpt a b c q).natAbs) (q.w * (dpt a b c p).natAbs + p.w * (dpt a b c q).natAbs)
theorem sgopp_iff {x y : Int} : x * y < 0 ↔ (0 < x ∧ y < 0) ∨ (x < 0 ∧ 0 < y) := by
  constructor
  · intro h
    rcases Int.lt_trichotomy x 0 with z | z | z
    · right
      refine ⟨z, ?_⟩
      by_cases w : 0 < y
      · exact w
      · have := Int.mul_nonneg_of_nonpos_of_nonpos (Int.le_of_lt z) (Int.not_lt.mp w)
        omega
    · rw [z, Int.zero_mul] at h
      omega
    · left
      refine ⟨z, ?_⟩
      by_cases w : y < 0
      · exact w
      · have := Int.mul_nonneg (Int.le_of_lt z) (Int.not_lt.mp w)
        omega
  · rintro (⟨h1, h2⟩ | ⟨h1, h2⟩)
    · exact Int.mul_neg_of_pos_of_neg h1 h2
    · exact Int.mul_neg_of_neg_of_pos h1 h2
/-- the crossing, times something above 0 -/
theorem crP_ok {a b c : Int} {p q : Pt} (wp : 0 < p.w) (wq : 0 < q.w) (h : dpt a b c p * dpt a b c q < 0) : FP (crP a b c p q) ∧ ∃ k, 0 < k ∧
    q.x * (dpt a b c p).natAbs + p.x * (dpt a b c q).natAbs = k * (crP a b c p q).x ∧ q.y * (dpt a b c p).natAbs + p.y * (dpt a b c q).natAbs = k * (crP a b c p q).y ∧ q.w * (dpt a b c p).natAbs + p.w * (dpt a b c q).natAbs = k * (crP a b c p q).w ∧
    0 < q.w * (dpt a b c p).natAbs + p.w * (dpt a b c q).natAbs := by
  have np : 0 < ((dpt a b c p).natAbs : Int) := by
    rcases sgopp_iff.mp h with z | z <;> omega
  have nq : 0 < ((dpt a b c q).natAbs : Int) := by
    rcases sgopp_iff.mp h with z | z <;> omega
  have d0 : 0 < q.w * (dpt a b c p).natAbs + p.w * (dpt a b c q).natAbs := Int.add_pos (Int.mul_pos wq np) (Int.mul_pos wp nq)
  obtain ⟨_, f, k, hk, e1, e2, e3, _⟩ := pN_ok (x := q.x * (dpt a b c p).natAbs + p.x * (dpt a b c q).natAbs) (y := q.y * (dpt a b c p).natAbs + p.y * (dpt a b c q).natAbs) d0
  exact ⟨f, k, hk, e1, e2, e3, d0⟩
/-- a look at the crossing -/
theorem crP_lf {a b c : Int} (u v t : Int) {p q : Pt} (wp : 0 < p.w) (wq : 0 < q.w) (h : dpt a b c p * dpt a b c q < 0) : ∃ k, 0 < k ∧ (dpt a b c p).natAbs * lf u v t q + (dpt a b c q).natAbs * lf u v t p = k * lf u v t (crP a b c p q) := by
  obtain ⟨_, k, hk, e1, e2, e3, _⟩ := crP_ok wp wq h
  refine ⟨k, hk, ?_⟩
  generalize ((dpt a b c p).natAbs : Int) = m at *
  generalize ((dpt a b c q).natAbs : Int) = n at *
  have : k * lf u v t (crP a b c p q) = u * (k * (crP a b c p q).x) + v * (k * (crP a b c p q).y) + t * (k * (crP a b c p q).w) := by
    unfold lf
    grind
  rw [this, ← e1, ← e2, ← e3]
  unfold lf
  grind
theorem dpt_lf (a b c : Int) (p : Pt) : dpt a b c p = lf a b (-c) p := by
  unfold dpt lf
  grind
theorem crP_line {a b c : Int} {p q : Pt} (wp : 0 < p.w) (wq : 0 < q.w) (h : dpt a b c p * dpt a b c q < 0) : dpt a b c (crP a b c p q) = 0 := by
  obtain ⟨k, hk, e⟩ := crP_lf a b (-c) wp wq h
  rw [← dpt_lf, ← dpt_lf, ← dpt_lf] at e
  have : k * dpt a b c (crP a b c p q) = 0 := by
    rw [← e]
    rcases sgopp_iff.mp h with ⟨z1, z2⟩ | ⟨z1, z2⟩
    · rw [show ((dpt a b c p).natAbs : Int) = dpt a b c p by omega, show ((dpt a b c q).natAbs : Int) = -dpt a b c q by omega]
      grind
    · rw [show ((dpt a b c p).natAbs : Int) = -dpt a b c p by omega, show ((dpt a b c q).natAbs : Int) = dpt a b c q by omega]
      grind
  rcases Int.mul_eq_zero.mp this with z | z
  · omega
  · exact z
theorem crP_cv {H : List Pt} {a b c : Int} {p q : Pt} (mp : p ∈ H) (mq : q ∈ H) (wp : 0 < p.w) (wq : 0 < q.w) (h : dpt a b c p * dpt a b c q < 0) : Cv H (crP a b c p q) := fun u v t hs => by
  obtain ⟨k, hk, e⟩ := crP_lf u v t wp wq h
  refine nonneg_of hk ?_
  show 0 ≤ k * lf u v t (crP a b c p q)
  rw [← e]
  exact Int.add_nonneg (Int.mul_nonneg (Int.natCast_nonneg _) (hs q mq)) (Int.mul_nonneg (Int.natCast_nonneg _) (hs p mp))
/-- the corners within, and the crossings of sides -/
def cutS (H : List Pt) (a b c : Int) : List Pt := (H.filter fun p => decide (0 ≤ dpt a b c p)) ++ ((prs (H ++ H.take 1)).filter fun pr => decide (dpt a b c pr.1 * dpt a b c pr.2 < 0)).map fun pr => crP a b c pr.1 pr.2
theorem mem_cutS {H : List Pt} {a b c : Int} {s : Pt} : s ∈ cutS H a b c ↔ (s ∈ H ∧ 0 ≤ dpt a b c s) ∨ ∃ pr ∈ prs (H ++ H.take 1), dpt a b c pr.1 * dpt a b c pr.2 < 0 ∧ s = crP a b c pr.1 pr.2 := by
  unfold cutS
  rw [List.mem_append, List.mem_filter, decide_eq_true_iff, List.mem_map]
  constructor
  · rintro (h | ⟨pr, m, rfl⟩)
    · exact .inl h
    · exact .inr ⟨pr, (List.mem_filter.mp m).1, of_decide_eq_true (List.mem_filter.mp m).2, rfl⟩
  · rintro (h | ⟨pr, m, h, rfl⟩)
    · exact .inl h
    · exact .inr ⟨pr, List.mem_filter.mpr ⟨m, decide_eq_true h⟩, rfl⟩
theorem round_mem {H : List Pt} : ∀ pr ∈ prs (H ++ H.take 1), pr.1 ∈ H ∧ pr.2 ∈ H := fun pr m => by
  obtain ⟨x, y⟩ := prs_in _ m
  refine ⟨?_, ?_⟩
  · rcases List.mem_append.mp x with m | m
    · exact m
    · exact List.mem_of_mem_take m
  · rcases List.mem_append.mp y with m | m
    · exact m
    · exact List.mem_of_mem_take m
/-- what is cut: all that both have -/
theorem cut_cv {H : List Pt} {a b c : Int} (X : PlateX H) (hF : ∀ s ∈ H, FP s) {m : Pt} : Cv (cutS H a b c) m ↔ Cv H m ∧ 0 ≤ dpt a b c m := by
  have wH : ∀ s ∈ H, 0 < s.w := fun s m => (hF s m).w
  constructor
  · intro h
    refine ⟨h.trans fun s ms => ?_, ?_⟩
    · rcases mem_cutS.mp ms with ⟨m, _⟩ | ⟨pr, mp, hp, rfl⟩
      · exact Cv.mem m
      · obtain ⟨m1, m2⟩ := round_mem pr mp
        exact crP_cv m1 m2 (wH _ m1) (wH _ m2) hp
    · rw [dpt_lf]
      refine h a b (-c) fun s ms => ?_
      show 0 ≤ lf a b (-c) s
      rw [← dpt_lf]
      rcases mem_cutS.mp ms with ⟨_, h⟩ | ⟨pr, mp, hp, rfl⟩
      · exact h
      · obtain ⟨m1, m2⟩ := round_mem pr mp
        rw [crP_line (wH _ m1) (wH _ m2) hp]
        exact Int.le_refl _
  · rintro ⟨cm, dm⟩ u v t hs
    refine cut_main X hF (fun r mr dr => hs r (mem_cutS.mpr (.inl ⟨mr, dr⟩))) (fun pr mp => ?_) cm dm
    obtain ⟨m1, m2⟩ := round_mem pr mp
    refine ⟨fun h1 h2 => ?_, fun h1 h2 => ?_⟩
    · have op : dpt a b c pr.1 * dpt a b c pr.2 < 0 := sgopp_iff.mpr (.inl ⟨h1, h2⟩)
      obtain ⟨k, hk, e⟩ := crP_lf u v t (wH _ m1) (wH _ m2) op
      have := Int.mul_nonneg (Int.le_of_lt hk) (hs _ (mem_cutS.mpr (.inr ⟨pr, mp, op, rfl⟩)))
      have e2 : k * lf u v t (crP a b c pr.1 pr.2) = crv a b c u v t pr.1 pr.2 := by
        rw [← e, show ((dpt a b c pr.1).natAbs : Int) = dpt a b c pr.1 by omega, show ((dpt a b c pr.2).natAbs : Int) = -dpt a b c pr.2 by omega]
        unfold crv
        grind
      rw [← e2]
      exact this
    · have op : dpt a b c pr.1 * dpt a b c pr.2 < 0 := sgopp_iff.mpr (.inr ⟨h2, h1⟩)
      obtain ⟨k, hk, e⟩ := crP_lf u v t (wH _ m1) (wH _ m2) op
      have := Int.mul_nonneg (Int.le_of_lt hk) (hs _ (mem_cutS.mpr (.inr ⟨pr, mp, op, rfl⟩)))
      have e2 : k * lf u v t (crP a b c pr.1 pr.2) = crv a b c u v t pr.2 pr.1 := by
        rw [← e, show ((dpt a b c pr.1).natAbs : Int) = -dpt a b c pr.1 by omega, show ((dpt a b c pr.2).natAbs : Int) = dpt a b c pr.2 by omega]
        unfold crv
        grind
      rw [← e2]
      exact this
/-! ### at most two sides cross a line -/
theorem grass (a b c : Int) (p q p' q' : Pt) : dpt a b c p' * dt p q q' - dpt a b c q' * dt p q p' + (dpt a b c p * dt p' q' q - dpt a b c q * dt p' q' p) = 0 := by
  unfold dpt dt det3
  grind
theorem cross_one {H : List Pt} {a b c : Int} (X : PlateX H) (hF : ∀ s ∈ H, FP s) {x y : Pt × Pt} (mx : x ∈ prs (H ++ H.take 1)) (my : y ∈ prs (H ++ H.take 1)) (x1 : 0 < dpt a b c x.1) (x2 : dpt a b c x.2 < 0) (y1 : 0 < dpt a b c y.1) (y2 : dpt a b c y.2 < 0) : x = y := by
  obtain ⟨mx1, mx2⟩ := round_mem x mx
  obtain ⟨my1, my2⟩ := round_mem y my
  have g := grass a b c x.1 x.2 y.1 y.2
  have s1 := Int.mul_nonneg (Int.le_of_lt y1) (X.edg x mx _ my2)
  have s2 := Int.mul_nonneg (Int.le_of_lt (Int.neg_pos_of_neg y2)) (X.edg x mx _ my1)
  have s3 := Int.mul_nonneg (Int.le_of_lt x1) (X.edg y my _ mx2)
  have s4 := Int.mul_nonneg (Int.le_of_lt (Int.neg_pos_of_neg x2)) (X.edg y my _ mx1)
  rw [Int.neg_mul] at s2 s4
  have z1 : dpt a b c y.1 * dt x.1 x.2 y.2 = 0 := by omega
  have z2 : dpt a b c y.2 * dt x.1 x.2 y.1 = 0 := by omega
  have w1 : dt x.1 x.2 y.2 = 0 := by
    rcases Int.mul_eq_zero.mp z1 with z | z
    · omega
    · exact z
  have w2 : dt x.1 x.2 y.1 = 0 := by
    rcases Int.mul_eq_zero.mp z2 with z | z
    · omega
    · exact z
  have ne : x.1 ≠ x.2 := fun e => by
    rw [e] at x1
    omega
  have a1 : y.1 = x.1 := by
    rcases side_strict X hF mx1 mx2 my1 ne w2 with e | e
    · exact e
    · rw [e] at y1
      omega
  have a2 : y.2 = x.2 := by
    rcases side_strict X hF mx1 mx2 my2 ne w1 with e | e
    · rw [e] at y2
      omega
    · exact e
  exact Prod.ext a1.symm a2.symm
theorem dpt_neg (a b c : Int) (p : Pt) : dpt (-a) (-b) (-c) p = -dpt a b c p := by
  unfold dpt
  grind
theorem cross_two {H : List Pt} {a b c : Int} (X : PlateX H) (hF : ∀ s ∈ H, FP s) : ((prs (H ++ H.take 1)).filter fun pr => decide (dpt a b c pr.1 * dpt a b c pr.2 < 0)).length ≤ 2 := by
  refine pigeon (fun (pr : Pt × Pt) (k : Bool) => k = decide (0 < dpt a b c pr.1)) _ [true, false] (List.Nodup.sublist List.filter_sublist (sides_nodup X.nd)) (fun x _ => ?_) (fun x mx y my k mk h1 h2 => ?_)
  · cases e : decide (0 < dpt a b c x.1)
    · exact ⟨false, by simp, rfl⟩
    · exact ⟨true, by simp, rfl⟩
  · have ox := sgopp_iff.mp (of_decide_eq_true (List.mem_filter.mp mx).2)
    have oy := sgopp_iff.mp (of_decide_eq_true (List.mem_filter.mp my).2)
    have mx := (List.mem_filter.mp mx).1
    have my := (List.mem_filter.mp my).1
    have e : (0 < dpt a b c x.1) ↔ (0 < dpt a b c y.1) := decide_eq_decide.mp (h1.symm.trans h2)
    rcases ox with ⟨o1, o2⟩ | ⟨o1, o2⟩
    · exact cross_one X hF mx my o1 o2 (e.mp o1) (by rcases oy with z | z <;> omega)
    · have n1 : ¬ 0 < dpt a b c y.1 := fun z => by
        have := e.mpr z
        omega
      refine cross_one (a := -a) (b := -b) (c := -c) X hF mx my ?_ ?_ ?_ ?_ <;> rw [dpt_neg]
      · omega
      · omega
      · rcases oy with z | z <;> omega
      · rcases oy with z | z <;> omega
end Pg
/-! Pg48: a name that takes a list made by a comprehension, held by the def alone. -/
namespace Pg
open PySem PySem.Spec PyProof.Rows L2
section
variable {K : PySem.W.Frag} {F : Fx} {O O1 O2 : Ow} {H H1 H2 : Hp} {σ : L2.St} {δ : Se} {p : Addr} {o : HO} {ta tb tc te : TE} {P : Po}
end
end Pg
/-! Pg49: what cuts tell; sizes of what is cut. -/
namespace Pg
open PySem PySem.Spec PyProof.Rows L2
/-- corners that are told of drawn plates -/
structure MP (p : Pt) : Prop where
  b : Bk 27 4 p
  w : p.w ∣ 36
section
variable {H T1 T2 : List Pt} {a b c : Int}
/-- a cut plate's places -/
theorem cutH_cv (X : PlateX H) (hF : ∀ s ∈ H, FP s) (g : ∀ s ∈ cutS H a b c, GP s) (n : cutS H a b c ≠ []) (O : Ord (cutS H a b c) T1) {m : Pt} : Cv (hullP T1) m ↔ Cv H m ∧ 0 ≤ dpt a b c m := by
  rw [hull_cv g n O, cut_cv X hF]
end
/-! ### what is told -/
abbrev B60' (a b c : Int) : Prop := a.natAbs < 2 ^ 60 ∧ b.natAbs < 2 ^ 60 ∧ c.natAbs < 2 ^ 60
end Pg
/-! Pg50: drawn plates with more corners, near and far. -/
namespace Pg
open PySem PySem.Spec PyProof.Rows L2
theorem w3_of {p : Pt} {i : Nat} (h : Bk i 2 p) : p.w = 1 ∨ p.w = 2 ∨ p.w = 3 := by
  have h1 := h.f.w
  have h2 := h.w
  omega
theorem Bk.mp {p : Pt} (h : Bk 22 2 p) : MP p := ⟨h.up (by decide) (by decide), by rcases w3_of h with e | e | e <;> rw [e] <;> decide⟩
/-! ### a cut's value -/
theorem Pls.sub {S T : List Pt} (h : Pls S) (m : ∀ t ∈ T, t ∈ S) (l : T.length ≤ 100000) : Pls T := by
  obtain ⟨B, c⟩ := h.cm
  exact ⟨l, fun t mt => h.gp t (m t mt), B, c.sub m⟩
end Pg
/-! Pg51: insides of plates; displays with starred parts. -/
namespace Pg
open PySem PySem.Spec PyProof.Rows L2
theorem v_filterG {K : PySem.W.Frag} {F : Fx} {δ : Se} {PD : PyData → Prop} {g : TG} {vs : List Nat} {wi : TI} {tt : TT} {te : TE} {G : (List PyData → Prop) → Prop} (w : WiD K F δ wi G) (gw : GW g vs) (p : PyData → Bool) (f : PyData → PyData) (h : G fun ds => ds.length ≤ 1000000 ∧
      (∀ x, x ∈ ds → GV K F (wipeS δ vs) g x fun δ2 => BV K F δ2 tt fun b => b = p x ∧ (p x = true → EV K F δ2 te fun y => y = f x)) ∧ PD (.list ((ds.filter p).map f))) : EV K F δ (tLc wi g tt te vs) PD := by
  refine v_lc w gw (w.mono _ _ (fun ds z => ?_) h)
  obtain ⟨hl, he, hp⟩ := z
  refine ⟨fun k acc => acc = ((ds.take k).filter p).map f, rfl, fun k x acc hx ea => ?_, fun acc ea => ?_⟩
  · have mem : x ∈ ds := List.mem_of_getElem? hx
    have hk : k < ds.length := (List.getElem?_eq_some_iff.mp hx).1
    have ek : (ds.take (k + 1)) = ds.take k ++ [x] := by
      rw [List.take_add_one, hx]
      rfl
    refine fun O H σ v S t Q q => he x mem O H σ v S t Q fun σ' δ' S' n => q σ' δ' S' (n.mono fun b ⟨eb, hb⟩ => ⟨fun e1 => ?_, fun e1 => ?_⟩)
    · have px : p x = true := by rw [← eb]; exact e1
      refine (hb px).mono fun y ey => ⟨?_, ?_⟩
      · rw [ea, List.length_map]
        have := List.length_filter_le p (ds.take k)
        have := List.length_take_le k ds
        omega
      · show acc ++ [y] = ((ds.take (k + 1)).filter p).map f
        rw [ea, ek, List.filter_append, List.map_append, ey]
        congr 1
        simp [px]
    · have px : p x = false := by rw [← eb]; exact e1
      show acc = ((ds.take (k + 1)).filter p).map f
      rw [ea, ek, List.filter_append, List.map_append]
      simp [px]
  · have ea : acc = ((ds.take ds.length).filter p).map f := ea
    rw [ea, List.take_length]
    exact hp
/-! ### stretches -/
def o2 (p q : Pt) : List Pt := if lt p q then [p, q] else [q, p]
def st2 (p q : Pt) : List Pt := hullP (o2 p q)
section
variable {H : List Pt}
def lookL (R : List (List Pt × Int)) (m : Pt) : Int := ((R.filter fun r => hasB r.1 m).map (·.2)).sum
end
/-! ### rows as data -/
def rowD (r : List Pt × Int) : PyData := .tuple [.tuple (r.1.map pD), .int r.2]
theorem ok0_row {r : List Pt × Int} (l : r.1.length ≤ 20) (g : ∀ s ∈ r.1, GP s) (n : r.2.natAbs < 10 ^ 500) : Ok0 (rowD r) := by
  obtain ⟨a1, a2, a3, a4, a5⟩ := pts_show (S := r.1) fun s m => (g s m).l5
  refine ⟨⟨⟨a1, n, trivial⟩, ?_, ?_, fun z => ?_, short_n (Nat.le_of_ble_eq_true rfl)⟩, ?_⟩
  · show 1 + (1 + nodesAll (r.1.map pD) + (1 + 0)) ≤ 100
    omega
  · show max (PyData.depthAll (r.1.map pD) + 1) (max 0 0) + 1 ≤ 10
    omega
  · have z : (PyData.hasDictAll (r.1.map pD) || (false || false)) = true := z
    rw [a4] at z
    cases z
  · show (PyData.hasDictAll (r.1.map pD) || (false || false)) = false
    rw [a4]
    rfl
end Pg
/-! Pg55: plates as what lines have together; their corners stay small however often they are cut. Plain Lean. -/
namespace Pg
open PySem PySem.Spec PyProof.Rows L2
structure Ln where
  a : Int
  b : Int
  c : Int
abbrev ev (l : Ln) (m : Pt) : Int := dpt l.a l.b l.c m
abbrev crs (l k : Ln) : Int := l.a * k.b - k.a * l.b
structure LnOk (l : Ln) : Prop where
  nz : l.a ≠ 0 ∨ l.b ≠ 0
  ba : l.a.natAbs < 2 ^ 37
  bb : l.b.natAbs < 2 ^ 37
  bc : l.c.natAbs < 2 ^ 61
def HasL (L : List Ln) (H : List Pt) : Prop := ∀ m : Pt, 0 < m.w → (Cv H m ↔ ∀ l ∈ L, 0 ≤ ev l m)
theorem bound_ln (f : Ln → Int) : ∀ S : List Ln, ∃ B : Int, 0 < B ∧ ∀ s ∈ S, f s < B
  | [] => ⟨1, by decide, fun s m => by cases m⟩
  | a :: r => by
    obtain ⟨B, B0, h⟩ := bound_ln f r
    by_cases q : f a < B
    · exact ⟨B, B0, fun s m => (List.mem_cons.mp m).elim (fun e => e ▸ q) (h s)⟩
    · refine ⟨f a + 1, by omega, fun s m => ?_⟩
      rcases List.mem_cons.mp m with e | m
      · rw [e]
        omega
      · have := h s m
        omega
theorem plate_sep {H : List Pt} (P : PlateH H) (hF : ∀ s ∈ H, FP s) : ∀ s ∈ H, Sep H s := fun s ms => by
  obtain ⟨T, O⟩ := exists_ord hF
  have e := P.idem O
  have A : Asc T := ⟨fun t m => (hF t ((O.mem t).mp m)).w, O.asc⟩
  have hT : ∀ t ∈ T, FP t := fun t m => hF t ((O.mem t).mp m)
  have sub : ∀ t ∈ H, t ∈ T := fun t m => (O.mem t).mpr m
  have m : s ∈ hullP T := by rw [e]; exact ms
  rcases hull_mem m with m | m | l
  · exact (chain_sep A hT m).sub sub
  · exact (upper_sep A hT m).sub sub
  · refine ⟨0, 0, 0, by omega, fun r mr n => ?_⟩
    exfalso
    have m1 := sub s ms
    have m2 := sub r mr
    match T, l, m1, m2 with
    | [], _, m1, _ => cases m1
    | [a], _, m1, m2 => exact n ((List.mem_singleton.mp m2).trans (List.mem_singleton.mp m1).symm)
    | _ :: _ :: _, l, _, _ => simp at l; omega
theorem ev_shift (l : Ln) (N : Int) (s : Pt) (dx dy : Int) : ev l ⟨N * s.x + dx, N * s.y + dy, N * s.w⟩ = N * ev l s + (l.a * dx + l.b * dy) := by
  unfold ev dpt
  grind
section
variable {L : List Ln} {H : List Pt}
/-- at a corner two lines cross -/
theorem corner_two (P : PlateH H) (hF : ∀ s ∈ H, FP s) (nz : ∀ l ∈ L, l.a ≠ 0 ∨ l.b ≠ 0) (hL : HasL L H) {s : Pt} (ms : s ∈ H) : ∃ l ∈ L, ∃ k ∈ L, ev l s = 0 ∧ ev k s = 0 ∧ crs l k ≠ 0 := by
  refine Classical.byContradiction fun no => ?_
  have ws := (hF s ms).w
  have par : ∀ l ∈ L, ∀ k ∈ L, ev l s = 0 → ev k s = 0 → crs l k = 0 := fun l ml k mk h1 h2 => by
    by_cases z : crs l k = 0
    · exact z
    · exact (no ⟨l, ml, k, mk, h1, h2, z⟩).elim
  obtain ⟨dx, dy, dn, hd⟩ : ∃ dx dy : Int, (dx ≠ 0 ∨ dy ≠ 0) ∧ ∀ l ∈ L, ev l s = 0 → l.a * dx + l.b * dy = 0 := by
    by_cases ex : ∃ l ∈ L, ev l s = 0
    · obtain ⟨l0, m0, z0⟩ := ex
      refine ⟨-l0.b, l0.a, (nz l0 m0).elim .inr fun h => .inl (by omega), fun l ml zl => ?_⟩
      have := par l0 m0 l ml z0 zl
      unfold crs at this
      grind
    · exact ⟨1, 0, .inl (by decide), fun l ml zl => (ex ⟨l, ml, zl⟩).elim⟩
  obtain ⟨N, N0, hN⟩ := bound_ln (fun l => ((l.a * dx + l.b * dy).natAbs : Int)) L
  have inn : ∀ l ∈ L, 0 ≤ ev l s := (hL s ws).mp (Cv.mem ms)
  have near : ∀ (e : Int), (e = 1 ∨ e = -1) → Cv H ⟨N * s.x + e * dx, N * s.y + e * dy, N * s.w⟩ := fun e he => by
    refine (hL _ (Int.mul_pos N0 ws)).mpr fun l ml => ?_
    rw [ev_shift]
    have e1 : l.a * (e * dx) + l.b * (e * dy) = e * (l.a * dx + l.b * dy) := by grind
    rw [e1]
    have b := hN l ml
    by_cases z : ev l s = 0
    · rw [z, hd l ml z]
      omega
    · have i := inn l ml
      have : N * 1 ≤ N * ev l s := Int.mul_le_mul_of_nonneg_left (by omega) (by omega)
      rcases he with rfl | rfl <;> omega
  obtain ⟨u, v, t, h1, h2⟩ := plate_sep P hF s ms
  have lin : ∀ (u v t e : Int), u * (N * s.x + e * dx) + v * (N * s.y + e * dy) + t * (N * s.w) = N * (u * s.x + v * s.y + t * s.w) + e * (u * dx + v * dy) := fun u v t e => by grind
  have p1 := near 1 (.inl rfl) u v t fun r mr => by
    by_cases c : r = s
    · rw [c, h1]; exact Int.le_refl 0
    · exact Int.le_of_lt (h2 r mr c)
  have p2 := near (-1) (.inr rfl) u v t fun r mr => by
    by_cases c : r = s
    · rw [c, h1]; exact Int.le_refl 0
    · exact Int.le_of_lt (h2 r mr c)
  rw [lin, h1] at p1 p2
  have z : u * dx + v * dy = 0 := by omega
  obtain ⟨B, B0, hB⟩ := bound_all (fun r => -(-(dx * s.w) * r.x + -(dy * s.w) * r.y + (dx * s.x + dy * s.y) * r.w)) H
  have p3 := near 1 (.inl rfl) (B * u + -(dx * s.w)) (B * v + -(dy * s.w)) (B * t + (dx * s.x + dy * s.y)) fun r mr => by
    have e : (B * u + -(dx * s.w)) * r.x + (B * v + -(dy * s.w)) * r.y + (B * t + (dx * s.x + dy * s.y)) * r.w = B * (u * r.x + v * r.y + t * r.w) + (-(dx * s.w) * r.x + -(dy * s.w) * r.y + (dx * s.x + dy * s.y) * r.w) := by grind
    rw [e]
    by_cases c : r = s
    · rw [c, h1]
      have : -(dx * s.w) * s.x + -(dy * s.w) * s.y + (dx * s.x + dy * s.y) * s.w = 0 := by grind
      omega
    · have b := hB r mr
      have : B * 1 ≤ B * (u * r.x + v * r.y + t * r.w) := Int.mul_le_mul_of_nonneg_left (h2 r mr c) (by omega)
      omega
  rw [lin] at p3
  have e3 : (B * u + -(dx * s.w)) * s.x + (B * v + -(dy * s.w)) * s.y + (B * t + (dx * s.x + dy * s.y)) * s.w = B * (u * s.x + v * s.y + t * s.w) := by grind
  have e4 : (B * u + -(dx * s.w)) * dx + (B * v + -(dy * s.w)) * dy = B * (u * dx + v * dy) - s.w * (dx * dx + dy * dy) := by grind
  rw [e3, e4, h1, z] at p3
  have := Int.mul_pos ws (sq_pos dn)
  omega
/-- a side lies on a line -/
theorem edge_line (X : PlateX H) (hF : ∀ s ∈ H, FP s) (hL : HasL L H) {pr : Pt × Pt} (mp : pr ∈ prs (H ++ H.take 1)) (n : pr.1 ≠ pr.2) : ∃ l ∈ L, ev l pr.1 = 0 ∧ ev l pr.2 = 0 := by
  refine Classical.byContradiction fun no => ?_
  obtain ⟨m1, m2⟩ := round_mem pr mp
  have w1 := (hF _ m1).w
  have w2 := (hF _ m2).w
  have i1 := (hL _ w1).mp (Cv.mem m1)
  have i2 := (hL _ w2).mp (Cv.mem m2)
  have wM : 0 < 2 * pr.1.w * pr.2.w := Int.mul_pos (by omega) w2
  have evM : ∀ l : Ln, ev l ⟨pr.1.x * pr.2.w + pr.2.x * pr.1.w, pr.1.y * pr.2.w + pr.2.y * pr.1.w, 2 * pr.1.w * pr.2.w⟩ = pr.2.w * ev l pr.1 + pr.1.w * ev l pr.2 := fun l => by
    unfold ev dpt
    grind
  generalize hM : (⟨pr.1.x * pr.2.w + pr.2.x * pr.1.w, pr.1.y * pr.2.w + pr.2.y * pr.1.w, 2 * pr.1.w * pr.2.w⟩ : Pt) = M at evM
  have wM : 0 < M.w := by rw [← hM]; exact wM
  have pos : ∀ l ∈ L, 0 < ev l M := fun l ml => by
    rw [evM]
    have a := i1 l ml
    have b := i2 l ml
    have x1 := Int.mul_nonneg (Int.le_of_lt w2) a
    have x2 := Int.mul_nonneg (Int.le_of_lt w1) b
    by_cases z : ev l pr.1 = 0
    · have zb : ev l pr.2 ≠ 0 := fun q => no ⟨l, ml, z, q⟩
      have := Int.mul_pos w1 (show 0 < ev l pr.2 by omega)
      omega
    · have := Int.mul_pos w2 (show 0 < ev l pr.1 by omega)
      omega
  obtain ⟨N, N0, hN⟩ := bound_ln (fun l => -(l.a * -(cu pr.1 pr.2) + l.b * -(cv pr.1 pr.2))) L
  have c : Cv H ⟨N * M.x + -(cu pr.1 pr.2), N * M.y + -(cv pr.1 pr.2), N * M.w⟩ := by
    refine (hL _ (Int.mul_pos N0 wM)).mpr fun l ml => ?_
    rw [ev_shift]
    have b := hN l ml
    have p := pos l ml
    have : N * 1 ≤ N * ev l M := Int.mul_le_mul_of_nonneg_left (by omega) (by omega)
    omega
  have z := c (cu pr.1 pr.2) (cv pr.1 pr.2) (ct pr.1 pr.2) fun r mr => by
    rw [← dt_c]
    exact X.edg pr mp r mr
  have e : cu pr.1 pr.2 * (N * M.x + -(cu pr.1 pr.2)) + cv pr.1 pr.2 * (N * M.y + -(cv pr.1 pr.2)) + ct pr.1 pr.2 * (N * M.w) = N * dt pr.1 pr.2 M - (cu pr.1 pr.2 * cu pr.1 pr.2 + cv pr.1 pr.2 * cv pr.1 pr.2) := by
    rw [dt_c]
    grind
  have dM : dt pr.1 pr.2 M = 0 := by
    rw [← hM]
    unfold dt det3
    grind
  rw [e, dM] at z
  have := sq_pos (a := cu pr.1 pr.2) (b := cv pr.1 pr.2) (by
    have := c_nz (hF _ m1) (hF _ m2) n
    omega)
  omega
/-- where two small lines cross, a place is small -/
theorem cross_bk {s : Pt} {l k : Ln} (fs : FP s) (ol : LnOk l) (ok : LnOk k) (h1 : ev l s = 0) (h2 : ev k s = 0) (n : crs l k ≠ 0) : Bk 99 75 s := by
  obtain ⟨X, Y, D, g, e, P, hg, _, ex, ey, ed, lx, ly, ld⟩ := plD_form (x := l.c * k.b - k.c * l.b) (y := l.a * k.c - k.a * l.c) (d := crs l k) n
  have ws := fs.w
  have q1 : crs l k * s.x = (l.c * k.b - k.c * l.b) * s.w := by
    unfold crs
    unfold ev dpt at h1 h2
    grind
  have q2 : crs l k * s.y = (l.a * k.c - k.a * l.c) * s.w := by
    unfold crs
    unfold ev dpt at h1 h2
    grind
  have u := (show FP ⟨X, Y, D⟩ from P)
  have d1 : X * s.w = s.x * D := by
    rw [ex, ed] at q1
    have : g * (X * s.w) = g * (s.x * D) := by grind
    exact Int.eq_of_mul_eq_mul_left hg this
  have d2 : Y * s.w = s.y * D := by
    rw [ey, ed] at q2
    have : g * (Y * s.w) = g * (s.y * D) := by grind
    exact Int.eq_of_mul_eq_mul_left hg this
  obtain ⟨r1, r2, r3⟩ := u.uniq fs d1 d2
  have r1 : X = s.x := r1
  have r2 : Y = s.y := r2
  have r3 : D = s.w := r3
  have a1 : (l.c * k.b - k.c * l.b).natAbs < 2 ^ 99 := abs_sub (wide_lt ol.bc ok.bb) (wide_lt ok.bc ol.bb)
  have a2 : (l.a * k.c - k.a * l.c).natAbs < 2 ^ 99 := abs_sub (wide_lt ol.ba ok.bc) (wide_lt ok.ba ol.bc)
  have a3 : (crs l k).natAbs < 2 ^ 75 := abs_sub (wide_lt ol.ba ok.bb) (wide_lt ok.ba ol.bb)
  exact ⟨fs, by rw [← r1]; omega, by rw [← r2]; omega, by rw [← r3]; omega⟩
end
structure Laid (H : List Pt) : Prop where
  p : PlateH H
  f : ∀ s ∈ H, FP s
  l : ∃ L : List Ln, (∀ l ∈ L, LnOk l) ∧ HasL L H
section
variable {H T : List Pt}
theorem Laid.x (h : Laid H) : PlateX H := h.p.toPlateX
theorem Laid.bk (h : Laid H) : ∀ s ∈ H, Bk 99 75 s := fun s ms => by
  obtain ⟨L, ok, hL⟩ := h.l
  obtain ⟨l, ml, k, mk, h1, h2, n⟩ := corner_two h.p h.f (fun l m => (ok l m).nz) hL ms
  exact cross_bk (h.f s ms) (ok l ml) (ok k mk) h1 h2 n
/-- e is l, within H -/
def Lik (H : List Pt) (e l : Ln) : Prop := ∃ α β : Int, 0 < α ∧ 0 < β ∧ ∀ m : Pt, 0 < m.w → Cv H m → ev e m * α = ev l m * β
theorem Lik.refl (l : Ln) : Lik H l l := ⟨1, 1, by decide, by decide, fun _ _ _ => rfl⟩
theorem sgn_of {x y α β : Int} (ha : 0 < α) (hb : 0 < β) (e : x * α = y * β) : (0 ≤ x ↔ 0 ≤ y) ∧ (x = 0 ↔ y = 0) ∧ (x < 0 ↔ y < 0) := by
  have key : ∀ {x y α β : Int}, 0 < α → 0 < β → x * α = y * β → 0 < x → 0 < y := fun {x y α β} ha hb e h => by
    have := Int.mul_pos h ha
    by_cases z : 0 < y
    · exact z
    · have := Int.mul_nonneg (show 0 ≤ -y by omega) (Int.le_of_lt hb)
      rw [Int.neg_mul] at this
      omega
  have key2 : ∀ {x y α β : Int}, 0 < α → 0 < β → x * α = y * β → x = 0 → y = 0 := fun {x y α β} ha hb e h => by
    rw [h, Int.zero_mul] at e
    rcases Int.mul_eq_zero.mp e.symm with z | z
    · exact z
    · omega
  have a1 := key ha hb e
  have a2 := key hb ha e.symm
  have b1 := key2 ha hb e
  have b2 := key2 hb ha e.symm
  refine ⟨⟨fun h => ?_, fun h => ?_⟩, ⟨b1, b2⟩, ⟨fun h => ?_, fun h => ?_⟩⟩
  · by_cases z : x = 0
    · rw [b1 z]; exact Int.le_refl 0
    · have := a1 (by omega); omega
  · by_cases z : y = 0
    · rw [b2 z]; exact Int.le_refl 0
    · have := a2 (by omega); omega
  · by_cases z : y < 0
    · exact z
    · by_cases z2 : y = 0
      · have := b2 z2; omega
      · have := a2 (by omega); omega
  · by_cases z : x < 0
    · exact z
    · by_cases z2 : x = 0
      · have := b1 z2; omega
      · have := a1 (by omega); omega
theorem ev_crP (l k : Ln) {p q : Pt} (wp : 0 < p.w) (wq : 0 < q.w) (h : ev k p * ev k q < 0) (h1 : ev l p = 0) (h2 : ev l q = 0) : ev l (crP k.a k.b k.c p q) = 0 := by
  obtain ⟨g, hg, e⟩ := crP_lf l.a l.b (-l.c) wp wq h
  rw [← dpt_lf, ← dpt_lf, ← dpt_lf] at e
  have h1 : dpt l.a l.b l.c p = 0 := h1
  have h2 : dpt l.a l.b l.c q = 0 := h2
  rw [h1, h2, Int.mul_zero, Int.mul_zero] at e
  have : g * dpt l.a l.b l.c (crP k.a k.b k.c p q) = 0 := by rw [← e]; rfl
  rcases Int.mul_eq_zero.mp this with z | z
  · omega
  · exact z
/-- what is cut stays small -/
theorem Laid.pts (h : Laid H) {e l : Ln} (ol : LnOk l) (k : Lik H e l) : ∀ s ∈ cutS H e.a e.b e.c, Bk 99 75 s := fun s ms => by
  rcases mem_cutS.mp ms with ⟨m, _⟩ | ⟨pr, mp, op, rfl⟩
  · exact h.bk s m
  · obtain ⟨L, ok, hL⟩ := h.l
    obtain ⟨m1, m2⟩ := round_mem pr mp
    have w1 := (h.f _ m1).w
    have w2 := (h.f _ m2).w
    have ne : pr.1 ≠ pr.2 := fun z => by
      rw [z] at op
      rcases sgopp_iff.mp op with z | z <;> omega
    obtain ⟨l0, ml0, z1, z2⟩ := edge_line h.x h.f hL mp ne
    have fc := (crP_ok w1 w2 op).1
    have cc := crP_cv (H := H) m1 m2 w1 w2 op
    obtain ⟨α, β, ha, hb, hk⟩ := k
    have on : ev l (crP e.a e.b e.c pr.1 pr.2) = 0 := (sgn_of ha hb (hk _ fc.w cc)).2.1.mp (crP_line w1 w2 op)
    refine cross_bk fc ol (ok l0 ml0) on (ev_crP l0 e w1 w2 op z1 z2) fun par => ?_
    -- l and the side's line would be one way
    have s1 := sgn_of ha hb (hk _ w1 (Cv.mem m1))
    have s2 := sgn_of ha hb (hk _ w2 (Cv.mem m2))
    have q : l0.a * (ev l pr.1 * pr.2.w - ev l pr.2 * pr.1.w) = 0 ∧ l0.b * (ev l pr.1 * pr.2.w - ev l pr.2 * pr.1.w) = 0 := by
      unfold crs at par
      unfold ev dpt at z1 z2 ⊢
      constructor <;> grind
    have q0 : ev l pr.1 * pr.2.w - ev l pr.2 * pr.1.w = 0 := by
      rcases (ok l0 ml0).nz with n | n
      · exact (Int.mul_eq_zero.mp q.1).resolve_left n
      · exact (Int.mul_eq_zero.mp q.2).resolve_left n
    rcases sgopp_iff.mp op with ⟨x1, x2⟩ | ⟨x1, x2⟩
    · have x2 : ev l pr.2 < 0 := s2.2.2.mp x2
      have x1 : 0 < ev l pr.1 := by
        have := s1.1.mp (Int.le_of_lt x1)
        have : ev l pr.1 ≠ 0 := fun z => by have := s1.2.1.mpr z; unfold ev at this; omega
        omega
      have y1 := Int.mul_pos x1 w2
      have y2 := Int.mul_pos (Int.neg_pos_of_neg x2) w1
      rw [Int.neg_mul] at y2
      omega
    · have x1 : ev l pr.1 < 0 := s1.2.2.mp x1
      have x2 : 0 < ev l pr.2 := by
        have := s2.1.mp (Int.le_of_lt x2)
        have : ev l pr.2 ≠ 0 := fun z => by have := s2.2.1.mpr z; unfold ev at this; omega
        omega
      have y1 := Int.mul_pos x2 w1
      have y2 := Int.mul_pos (Int.neg_pos_of_neg x1) w2
      rw [Int.neg_mul] at y2
      omega
theorem cutS_len2 (X : PlateX H) (hF : ∀ s ∈ H, FP s) (a b c : Int) : (cutS H a b c).length ≤ H.length + 2 := by
  have c2 := cross_two (a := a) (b := b) (c := c) X hF
  unfold cutS
  rw [List.length_append, List.length_map]
  have := List.length_filter_le (fun p => decide (0 ≤ dpt a b c p)) H
  omega
theorem Laid.cut (h : Laid H) {e l : Ln} (ol : LnOk l) (k : Lik H e l) (n : cutS H e.a e.b e.c ≠ []) (O : Ord (cutS H e.a e.b e.c) T) : Laid (hullP T) ∧ (hullP T).length ≤ H.length + 2 ∧ ∀ m : Pt, 0 < m.w → (Cv (hullP T) m ↔ Cv H m ∧ 0 ≤ ev e m) := by
  have g : ∀ s ∈ cutS H e.a e.b e.c, GP s := fun s ms => (h.pts ol k s ms).gp (by decide) (by decide)
  obtain ⟨P, sub, ln⟩ := plateH_of g n O
  have cv : ∀ m : Pt, 0 < m.w → (Cv (hullP T) m ↔ Cv H m ∧ 0 ≤ ev e m) := fun m _ => cutH_cv h.x h.f g n O
  refine ⟨⟨P, fun s ms => (g s (sub s ms)).1, ?_⟩, by have := cutS_len2 h.x h.f e.a e.b e.c; omega, cv⟩
  obtain ⟨L, ok, hL⟩ := h.l
  obtain ⟨α, β, ha, hb, hk⟩ := k
  refine ⟨l :: L, fun x m => (List.mem_cons.mp m).elim (fun e => e ▸ ol) (ok x), fun m wm => ?_⟩
  rw [cv m wm]
  constructor
  · rintro ⟨c, z⟩ x mx
    rcases List.mem_cons.mp mx with e | mx
    · rw [e]; exact (sgn_of ha hb (hk m wm c)).1.mp z
    · exact (hL m wm).mp c x mx
  · intro z
    have c := (hL m wm).mpr fun x mx => z x (List.mem_cons_of_mem _ mx)
    exact ⟨c, (sgn_of ha hb (hk m wm c)).1.mpr (z l List.mem_cons_self)⟩
theorem Laid.none (h : Laid H) {e : Ln} (z : cutS H e.a e.b e.c = []) : ∀ m : Pt, 0 < m.w → ¬ (Cv H m ∧ 0 ≤ ev e m) := fun m wm hm => by
  have := (cut_cv h.x h.f (a := e.a) (b := e.b) (c := e.c)).mpr hm
  rw [z] at this
  exact Cv.nil wm this
/-- one plate for all that is told alike -/
theorem Laid.same (h : Laid H) (h' : Laid T) (e : ∀ m : Pt, 0 < m.w → (Cv H m ↔ Cv T m)) : H = T := by
  obtain ⟨U, O⟩ := exists_ord h.f
  obtain ⟨V, O'⟩ := exists_ord h'.f
  rw [← h.p.idem O, ← h'.p.idem O']
  exact hull_same O O' h.f h'.f (fun s ms => (e s (h.f s ms).w).mp (Cv.mem ms)) fun s ms => (e s (h'.f s ms).w).mpr (Cv.mem ms)
end
/-! ### what two plates both have -/
def MeetV (A B : List Pt) (o : PyData) : Prop := (o = .none ∧ ∀ m : Pt, 0 < m.w → ¬ (Cv A m ∧ Cv B m)) ∨ ∃ H, o = .tuple (H.map pD) ∧ Laid H ∧ ∀ m : Pt, 0 < m.w → (Cv H m ↔ Cv A m ∧ Cv B m)
theorem MeetV.symm {A B : List Pt} {o : PyData} (h : MeetV A B o) : MeetV B A o := by
  rcases h with ⟨e, h⟩ | ⟨H, e, l, h⟩
  · exact .inl ⟨e, fun m w z => h m w z.symm⟩
  · exact .inr ⟨H, e, l, fun m w => by rw [h m w, and_comm]⟩
theorem MeetV.uniq {A B : List Pt} {o o' : PyData} (h : MeetV A B o) (h' : MeetV A B o') : o = o' := by
  rcases h with ⟨e, h⟩ | ⟨H, e, l, h⟩
  · rcases h' with ⟨e', _⟩ | ⟨H', _, l', h'⟩
    · rw [e, e']
    · obtain ⟨s, ms⟩ := List.exists_mem_of_ne_nil _ l'.x.ne
      exact (h s (l'.f s ms).w ((h' s (l'.f s ms).w).mp (Cv.mem ms))).elim
  · rcases h' with ⟨_, h'⟩ | ⟨H', e', l', h'⟩
    · obtain ⟨s, ms⟩ := List.exists_mem_of_ne_nil _ l.x.ne
      exact (h' s (l.f s ms).w ((h s (l.f s ms).w).mp (Cv.mem ms))).elim
    · rw [e, e', l.same l' fun m w => by rw [h m w, h' m w]]
end Pg
/-! Pg56: the lines around a plate, as the program and the law tell them. -/
namespace Pg
open PySem PySem.Spec PyProof.Rows L2
def lnOf (a b c : Int) : Ln := ⟨a.fdiv (g3 a b c : Nat), b.fdiv (g3 a b c : Nat), c.fdiv (g3 a b c : Nat)⟩
def negL (l : Ln) : Ln := ⟨-l.a, -l.b, -l.c⟩
def dnX (a b : Int) : Int := a.fdiv (dg a b)
def dnY (a b : Int) : Int := b.fdiv (dg a b)
/-! ### sides and ends -/
/-- the program's line of a side -/
def sideLn (p q : Pt) : Ln := negL (lnOf (dnX (wy p q).2 (-(wy p q).1) * p.w) (dnY (wy p q).2 (-(wy p q).1) * p.w) (dnX (wy p q).2 (-(wy p q).1) * p.x + dnY (wy p q).2 (-(wy p q).1) * p.y))
/-- from p on, towards q -/
def endLn (p q : Pt) : Ln := lnOf (dnX (wy p q).1 (wy p q).2 * p.w) (dnY (wy p q).1 (wy p q).2 * p.w) (dnX (wy p q).1 (wy p q).2 * p.x + dnY (wy p q).1 (wy p q).2 * p.y)
/-- back from q on -/
def backLn (p q : Pt) : Ln := lnOf (-dnX (wy p q).1 (wy p q).2 * q.w) (-dnY (wy p q).1 (wy p q).2 * q.w) (-dnX (wy p q).1 (wy p q).2 * q.x + -dnY (wy p q).1 (wy p q).2 * q.y)
section
variable {p q : Pt}
end
end Pg
/-! Pg57: lines that a plate is all that they have together, one behind the other; what cutting at them tells. -/
namespace Pg
open PySem PySem.Spec PyProof.Rows L2
/-- the lines es, in this order, have together just B; each is small, or like a small one where the ones ahead let it matter -/
structure Bords (B : List Pt) (es : List Ln) : Prop where
  cv : ∀ m : Pt, 0 < m.w → (Cv B m ↔ ∀ e ∈ es, 0 ≤ ev e m)
  lik : ∀ (i : Nat) (e : Ln), es[i]? = some e → ∃ l, LnOk l ∧ ∃ α β : Int, 0 < α ∧ 0 < β ∧ ∀ m : Pt, 0 < m.w → (∀ k ∈ es.take i, 0 ≤ ev k m) → ev e m * α = ev l m * β
  sz : ∀ e ∈ es, e.a.natAbs < 2 ^ 120 ∧ e.b.natAbs < 2 ^ 120 ∧ e.c.natAbs < 2 ^ 140
/-- after some of the lines -/
structure CutSt (A : List Pt) (es : List Ln) (i : Nat) (H : List Pt) : Prop where
  l : Laid H
  n : H.length ≤ A.length + 2 * i
  cv : ∀ m : Pt, 0 < m.w → (Cv H m ↔ Cv A m ∧ ∀ e ∈ es.take i, 0 ≤ ev e m)
section
variable {A B H T : List Pt} {es : List Ln} {i : Nat} {e : Ln}
theorem CutSt.none (S : CutSt A es i H) (b : Bords B es) (he : es[i]? = some e) (n : cutS H e.a e.b e.c = []) : MeetV A B .none :=
  .inl ⟨rfl, fun m w ⟨ca, cb⟩ => by
    have q := (b.cv m w).mp cb
    exact S.l.none n m w ⟨(S.cv m w).mpr ⟨ca, fun x mx => q x (List.mem_of_mem_take mx)⟩, q e (List.mem_of_getElem? he)⟩⟩
end
/-! ### small lines of sides -/
section
variable {H : List Pt} {p q : Pt}
end
/-- the program's lines -/
def bordP (H : List Pt) : List Ln := (nbP H).map (fun pr => sideLn pr.1 pr.2) ++ match H with
  | [p, q] => [endLn p q, backLn p q]
  | _ => []
end Pg
/-! Pg58: the program's lines around a plate, and the law's, are such. -/
namespace Pg
open PySem PySem.Spec PyProof.Rows L2
section
variable {p q : Pt} {H : List Pt}
/-! ### the law's -/
end
end Pg
/-! Pg59: promises of what meets. -/
namespace Pg
open PySem PySem.Spec PyProof.Rows L2
end Pg
/-! Pg60: objects as data: their fields read, their methods called. -/
namespace Pg
open PySem PySem.Spec PyProof.Rows L2
section
variable {X : Cx} {k : Nat} {C : Addr} {m : Str} {ps : List Str} {sp : Sp} {p pos apos : Pos} {o e : Expr} {es : List Expr} {ta : TE} {t : TA}
end
/-! ### in data -/
section
variable {av : Addr → Prop} {K : PySem.W.Frag} {H : Hp} {C : Addr}
end
section
variable {K : PySem.W.Frag} {F : Fx} {δ : Se} {te : TE} {P : PyData → Prop} {f m : Str} {C : Addr}
end
end Pg
/-! Pg52: zip of a tuple and a list (any two rows whose iterators have rules). -/
namespace Pg
open PySem PySem.Spec PyProof.Rows L2
/-- an iterator over a row: where it stands (St), what the row holds (Ro), with its rules -/
structure RowIt (P : Program) (w : World) (it row : Addr) (St : Heap → Nat → Prop) (Ro : Heap → Array Value → Prop) : Prop where
  step : ∀ {A : Around} {E : Value → Shared → Prop} {s : Shared} {n : Nat} {vs : Array Value} {v : Value} {Q : Value → Shared → Prop}, St s.heap n → Ro s.heap vs → vs[n]? = some v →
    (∀ g, St g (n + 1) → Heap.SameBut it s.heap g → Q v { s with heap := g }) → wpAny (model P w) A (Builtin.SmallTypes.nextOf (.ref it)) Q E s
  stop : ∀ {A : Around} {E : Value → Shared → Prop} {s : Shared} {n : Nat} {vs : Array Value} {Q : Value → Shared → Prop}, A.handled = none → St s.heap n → Ro s.heap vs → vs[n]? = none →
    (∀ g e, Heap.ExtBut it s.heap g → (∃ o, g.get? e = some o ∧ o.cls = .type "StopIteration") → E (.ref e) { s with heap := g }) → wpAny (model P w) A (Builtin.SmallTypes.nextOf (.ref it)) Q E s
  st : ∀ {f g : Heap} {n : Nat}, St f n → (∀ o, f.get? it = some o → g.get? it = some o) → St g n
  ro : ∀ {f g : Heap} {vs : Array Value}, Ro f vs → (∀ o, f.get? row = some o → g.get? row = some o) → Ro g vs
  ob : ∀ {f : Heap} {n : Nat}, St f n → ∃ o, f.get? it = some o ∧ ∀ v, o.data ≠ .cell v
theorem rowIt_tup {P : Program} {w : World} {it row : Addr} : RowIt P w it row (fun g n => g.IsTupleIter it row n) (fun g vs => g.IsTuple row vs) where
  step a b c q := RZ.nextOf_tuple_item a b c q
  stop h a b c q := RZ.nextOf_tuple_end h a b c q
  st a k := a.at k
  ro a k := a.at k
  ob a := by
    obtain ⟨o, e, _, d⟩ := a
    exact ⟨o, e, fun v z => by rw [d] at z; cases z⟩
theorem rowIt_lst {P : Program} {w : World} {it row : Addr} : RowIt P w it row (fun g n => g.IsListIter it row n) (fun g vs => g.IsList row vs) where
  step a b c q := wpAny_nextOf_list_item a b c q
  stop h a b c q := wpAny_nextOf_list_end h a b c q
  st a k := a.at k
  ro a k := a.at k
  ob a := by
    obtain ⟨o, e, _, d⟩ := a
    exact ⟨o, e, fun v z => by rw [d] at z; cases z⟩
section
variable {P : Program} {w : World} {A : Around} {E : Value → Shared → Prop} {s : Shared} {Z PI' PO j1 j2 r1 r2 : Addr} {S1 S2 : Heap → Nat → Prop} {R1 R2 : Heap → Array Value → Prop}
/-- what is kept but for the four that change -/
abbrev But4 (Z PO j1 j2 : Addr) (f g : Heap) : Prop := ∀ c o, c ≠ Z → c ≠ PO → c ≠ j1 → c ≠ j2 → f.get? c = some o → g.get? c = some o
theorem zmx_item (U1 : RowIt P w j1 r1 S1 R1) (U2 : RowIt P w j2 r2 S2 R2) (D : ZipApart Z PI' PO j1 j2 r1 r2) {n : Nat} {vs us : Array Value} {v u p q : Value} {Q : Value → Shared → Prop}
    (kz : IsZip s.heap Z PI' PO .none) (ki : IsPair s.heap PI' (.ref j1) (.ref j2)) (ko : IsPair s.heap PO p q) (a1 : S1 s.heap n) (a2 : S2 s.heap n) (b1 : R1 s.heap vs) (b2 : R2 s.heap us) (ev : vs[n]? = some v) (eu : us[n]? = some u)
    (fin : ∀ g, IsZip g Z PI' PO (rawInt s.heap.objs.size) → IsPair g PO v u → S1 g (n + 1) → S2 g (n + 1) → IsPair g s.heap.objs.size v u → g.objs.size = s.heap.objs.size + 1 → But4 Z PO j1 j2 s.heap g → Q (.ref s.heap.objs.size) { s with heap := g }) :
    wpAny (model P w) A (Builtin.«zip.__next__» ⟨[.ref Z], []⟩) (fun x t => ∃ y, x = .done (.ret y) ∧ Q y t) E s := by
  show wpAny _ _ (field (.ref Z) 2 >>= fun _ => _) _ _ _
  refine wpAny_bind (wpAny_field kz rfl (x := .bool false) rfl ?_)
  show wpAny _ _ (field (.ref Z) 3 >>= fun _ => _) _ _ _
  refine wpAny_bind (wpAny_field kz rfl (x := .ref PI') rfl (wpAny_bind (wpAny_seqItems ki rfl ?_)))
  show wpAny _ _ (Builtin.SmallTypes.ownedTupleIsFree (.ref Z) >>= fun _ => _) _ _ _
  refine wpAny_bind ?_; unfold Builtin.SmallTypes.ownedTupleIsFree
  refine wpAny_bind (wpAny_field kz rfl (x := .none) rfl (wpAny_pure ?_))
  simp only [if_true]
  refine wpAny_bind (wpAny_rule (wpAny_bind (wpAny_field kz rfl (x := .ref PO) rfl (wpAny_bind (wpAny_setField_rec kz (by simp) fun g1 z1 e1 => ?_)))))
  replace z1 : IsZip g1 Z PI' PO .ellipsis := z1
  refine wpAny_bind ?_; simp only [List.forIn_cons, List.forIn_nil, List.zipIdx_cons, List.zipIdx_nil]
  -- the first row
  refine wpAny_bind (wpAny_bind (wpAny_onRaise ?_)); show wpAny _ _ (Builtin.SmallTypes.nextOf (.ref j1) >>= fun _ => _) _ _ _
  refine wpAny_bind (U1.step (U1.st a1 fun o => e1.extBut _ _ D.i1z) (U1.ro b1 fun o => e1.extBut _ _ D.l1z) ev fun g2 s2 e2 => wpAny_pure ?_)
  have o2 : IsPair g2 PO p q := e2.extBut _ _ D.TOi1 (e1.extBut _ _ D.TOz ko)
  refine wpAny_bind (wpAny_seqItems o2 rfl (wpAny_bind (wpAny_updateSeq_pair o2 fun g3 o3 e3 => ?_)))
  replace o3 : IsPair g3 PO v q := o3
  refine wpAny_bind (wpAny_letGo <| wpAny_pure ?_)
  -- the other row
  refine wpAny_bind (wpAny_bind (wpAny_onRaise ?_)); show wpAny _ _ (Builtin.SmallTypes.nextOf (.ref j2) >>= fun _ => _) _ _ _
  have up3 : ∀ c o, c ≠ Z → c ≠ PO → c ≠ j1 → s.heap.get? c = some o → g3.get? c = some o := fun c o n1 n2 n3 h => e3.extBut _ _ n2 (e2.extBut _ _ n3 (e1.extBut _ _ n1 h))
  refine wpAny_bind (U2.step (U2.st a2 fun o => up3 _ o D.i2z D.TOi2.symm D.i12.symm) (U2.ro b2 fun o => up3 _ o D.l2z D.l2TO D.l2i1) eu fun g4 s4 e4 => wpAny_pure ?_)
  have o4 : IsPair g4 PO v q := e4.extBut _ _ D.TOi2 o3
  refine wpAny_bind (wpAny_seqItems o4 rfl (wpAny_bind (wpAny_updateSeq_pair o4 fun g5 o5 e5 => ?_)))
  replace o5 : IsPair g5 PO v u := o5
  refine wpAny_bind (wpAny_letGo <| wpAny_pure <| wpAny_pure ?_)
  refine wpAny_bind (wpAny_seqItems o5 rfl (wpAny_bind (wpAny_newTuple ?_)))
  -- handed out
  have size5 : g5.objs.size = s.heap.objs.size := by rw [e5.1, e4.1, e3.1, e2.1, e1.1]
  have up5 : But4 Z PO j1 j2 s.heap g5 := fun c o n1 n2 n3 n4 h => e5.extBut _ _ n2 (e4.extBut _ _ n4 (up3 c o n1 n2 n3 h))
  have z5 : IsZip g5 Z PI' PO .ellipsis := e5.extBut _ _ D.TOz.symm (e4.extBut _ _ D.i2z.symm (e3.extBut _ _ D.TOz.symm (e2.extBut _ _ D.i1z.symm z1)))
  have q1 : S1 g5 (n + 1) := U1.st s2 fun o h => e5.extBut _ _ D.TOi1.symm (e4.extBut _ _ D.i12 (e3.extBut _ _ D.TOi1.symm h))
  have q2 : S2 g5 (n + 1) := U2.st s4 fun o h => e5.extBut _ _ D.TOi2.symm h
  have lz : Z < g5.objs.size := Heap.lt_size z5
  show wpAny _ _ (Builtin.SmallTypes.ownedTupleHandOut (.ref Z) (.ref g5.objs.size) >>= fun _ => _) _ _ _
  refine wpAny_bind ?_; unfold Builtin.SmallTypes.ownedTupleHandOut
  have z6 : IsZip (g5.push { cls := .type "tuple", data := .seq #[v, u] }) Z PI' PO .ellipsis := Heap.get?_push_of_some _ z5
  refine wpAny_bind (wpAny_setField_rec z6 (by simp) fun g7 z7 e7 => ?_)
  replace z7 : IsZip g7 Z PI' PO (rawInt g5.objs.size) := z7
  refine wpAny_setField_rec z7 (by simp) fun g8 z8 e8 => ?_
  replace z8 : IsZip g8 Z PI' PO (rawInt g5.objs.size) := z8
  have up8 : ∀ c o, c ≠ Z → g5.get? c = some o → g8.get? c = some o := fun c o n1 h => e8.extBut _ _ n1 (e7.extBut _ _ n1 (Heap.get?_push_of_some _ h))
  have t8 : IsPair g8 g5.objs.size v u := e8.extBut _ _ (Nat.ne_of_gt lz) (e7.extBut _ _ (Nat.ne_of_gt lz) (Heap.get?_push_size _ rfl))
  have size8 : g8.objs.size = g5.objs.size + 1 := by rw [e8.1, e7.1, Heap.size_push]
  refine wpAny_pure ⟨_, rfl, ?_⟩
  show Q (.ref g5.objs.size) _
  rw [size5] at z8 t8 size8 ⊢
  exact fin g8 z8 (up8 _ _ D.TOz o5) (U1.st q1 fun o h => up8 _ o D.i1z h) (U2.st q2 fun o h => up8 _ o D.i2z h) t8 size8 fun c o n1 n2 n3 n4 h => up8 c o n1 (up5 c o n1 n2 n3 n4 h)
theorem zmx_end (hh : A.handled = none) (U1 : RowIt P w j1 r1 S1 R1) (U2 : RowIt P w j2 r2 S2 R2) (D : ZipApart Z PI' PO j1 j2 r1 r2) {n : Nat} {vs us : Array Value} {p q : Value} {Q : Fin → Shared → Prop}
    (kz : IsZip s.heap Z PI' PO .none) (ki : IsPair s.heap PI' (.ref j1) (.ref j2)) (ko : IsPair s.heap PO p q) (a1 : S1 s.heap n) (a2 : S2 s.heap n) (b1 : R1 s.heap vs) (b2 : R2 s.heap us) (no : vs[n]? = none ∨ us[n]? = none)
    (fin : ∀ g e, But4 Z PO j1 j2 s.heap g → (∃ o, g.get? e = some o ∧ o.cls = .type "StopIteration") → E (.ref e) { s with heap := g }) :
    wpAny (model P w) A (Builtin.«zip.__next__» ⟨[.ref Z], []⟩) Q E s := by
  show wpAny _ _ (field (.ref Z) 2 >>= fun _ => _) _ _ _
  refine wpAny_bind (wpAny_field kz rfl (x := .bool false) rfl ?_)
  show wpAny _ _ (field (.ref Z) 3 >>= fun _ => _) _ _ _
  refine wpAny_bind (wpAny_field kz rfl (x := .ref PI') rfl (wpAny_bind (wpAny_seqItems ki rfl ?_)))
  show wpAny _ _ (Builtin.SmallTypes.ownedTupleIsFree (.ref Z) >>= fun _ => _) _ _ _
  refine wpAny_bind ?_; unfold Builtin.SmallTypes.ownedTupleIsFree
  refine wpAny_bind (wpAny_field kz rfl (x := .none) rfl (wpAny_pure ?_))
  simp only [if_true]
  refine wpAny_bind (wpAny_rule (wpAny_bind (wpAny_field kz rfl (x := .ref PO) rfl (wpAny_bind (wpAny_setField_rec kz (by simp) fun g1 z1 e1 => ?_)))))
  replace z1 : IsZip g1 Z PI' PO .ellipsis := z1
  refine wpAny_bind ?_; simp only [List.forIn_cons, List.forIn_nil, List.zipIdx_cons, List.zipIdx_nil]
  refine wpAny_bind (wpAny_bind (wpAny_onRaise ?_)); show wpAny _ _ (Builtin.SmallTypes.nextOf (.ref j1) >>= fun _ => _) _ _ _
  have k1 := U1.st a1 fun o => e1.extBut _ o D.i1z
  have k2 := U1.ro b1 fun o => e1.extBut _ o D.l1z
  match ev : vs[n]?, no with
  | none, _ =>
    refine wpAny_bind (U1.stop hh k1 k2 ev fun g2 e e2 se => ?_)
    obtain ⟨oe, he, ce⟩ := se
    have z2 : IsZip g2 Z PI' PO .ellipsis := e2 _ _ D.i1z.symm z1
    have ne : e ≠ Z := fun x => by subst x; rw [z2] at he; cases he; simp at ce
    exact wpAny_setField_rec z2 (by simp) fun g3 _ e3 => fin g3 e (fun c o n1 _ n3 _ h => e3.extBut _ _ n1 (e2 _ _ n3 (e1.extBut _ _ n1 h))) ⟨oe, e3.extBut _ _ ne he, ce⟩
  | some v, .inr eu =>
    refine wpAny_bind (U1.step k1 k2 ev fun g2 s2 e2 => wpAny_pure ?_)
    have o2 : IsPair g2 PO p q := e2.extBut _ _ D.TOi1 (e1.extBut _ _ D.TOz ko)
    refine wpAny_bind (wpAny_seqItems o2 rfl (wpAny_bind (wpAny_updateSeq_pair o2 fun g3 o3 e3 => ?_)))
    refine wpAny_bind (wpAny_letGo <| wpAny_pure ?_)
    refine wpAny_bind (wpAny_bind (wpAny_onRaise ?_)); show wpAny _ _ (Builtin.SmallTypes.nextOf (.ref j2) >>= fun _ => _) _ _ _
    have up3 : ∀ c o, c ≠ Z → c ≠ PO → c ≠ j1 → s.heap.get? c = some o → g3.get? c = some o := fun c o n1 n2 n3 h => e3.extBut _ _ n2 (e2.extBut _ _ n3 (e1.extBut _ _ n1 h))
    refine wpAny_bind (U2.stop hh (U2.st a2 fun o => up3 _ o D.i2z D.TOi2.symm D.i12.symm) (U2.ro b2 fun o => up3 _ o D.l2z D.l2TO D.l2i1) eu fun g4 e e4 se => ?_)
    obtain ⟨oe, he, ce⟩ := se
    have z4 : IsZip g4 Z PI' PO .ellipsis := e4 _ _ D.i2z.symm (e3.extBut _ _ D.TOz.symm (e2.extBut _ _ D.i1z.symm z1))
    have ne : e ≠ Z := fun x => by subst x; rw [z4] at he; cases he; simp at ce
    exact wpAny_setField_rec z4 (by simp) fun g5 _ e5 => fin g5 e (fun c o n1 n2 n3 n4 h => e5.extBut _ _ n1 (e4 _ _ n4 (up3 c o n1 n2 n3 h))) ⟨oe, e5.extBut _ _ ne he, ce⟩
  | some v, .inl no => cases no
theorem zmx_next (U1 : RowIt P w j1 r1 S1 R1) (U2 : RowIt P w j2 r2 S2 R2) (D : ZipApart Z PI' PO j1 j2 r1 r2) {n : Nat} {vs us : Array Value} {v u p q : Value} {Q : Option Value → Shared → Prop}
    (kz : IsZip s.heap Z PI' PO .none) (ki : IsPair s.heap PI' (.ref j1) (.ref j2)) (ko : IsPair s.heap PO p q) (a1 : S1 s.heap n) (a2 : S2 s.heap n) (b1 : R1 s.heap vs) (b2 : R2 s.heap us) (ev : vs[n]? = some v) (eu : us[n]? = some u)
    (fin : ∀ g, IsZip g Z PI' PO (rawInt s.heap.objs.size) → IsPair g PO v u → S1 g (n + 1) → S2 g (n + 1) → IsPair g s.heap.objs.size v u → g.objs.size = s.heap.objs.size + 1 → But4 Z PO j1 j2 s.heap g → Q (some (.ref s.heap.objs.size)) { s with heap := g }) :
    wpAny (model P w) A (pyNext (.ref Z)) Q E s := by
  have ty : s.TypeIs (.ref Z) "zip" := ⟨_, kz, rfl⟩
  unfold pyNext
  refine wpAny_bind (wpAny_attempt (wpAny_callSpecial?_slot (name := Str.ofString "__next__") ty F.slot_zip_next (wpAny_call_entry F.slot_zip_next ty F.entry_zip_next ?_ (F.args_zip_next_1 _))))
  exact zmx_item U1 U2 D kz ki ko a1 a2 b1 b2 ev eu fun g c1 c2 c3 c4 c5 c6 c7 => wpAny_pure (fin g c1 c2 c3 c4 c5 c6 c7)
theorem zmx_none (hh : A.handled = none) (U1 : RowIt P w j1 r1 S1 R1) (U2 : RowIt P w j2 r2 S2 R2) (D : ZipApart Z PI' PO j1 j2 r1 r2) {n : Nat} {vs us : Array Value} {p q : Value} {Q : Option Value → Shared → Prop}
    (kz : IsZip s.heap Z PI' PO .none) (ki : IsPair s.heap PI' (.ref j1) (.ref j2)) (ko : IsPair s.heap PO p q) (a1 : S1 s.heap n) (a2 : S2 s.heap n) (b1 : R1 s.heap vs) (b2 : R2 s.heap us) (no : vs[n]? = none ∨ us[n]? = none)
    (fin : ∀ g, But4 Z PO j1 j2 s.heap g → Q none { s with heap := g }) : wpAny (model P w) A (pyNext (.ref Z)) Q E s := by
  have ty : s.TypeIs (.ref Z) "zip" := ⟨_, kz, rfl⟩
  unfold pyNext
  refine wpAny_bind (wpAny_attempt (wpAny_callSpecial?_slot (name := Str.ofString "__next__") ty F.slot_zip_next (wpAny_call_entry F.slot_zip_next ty F.entry_zip_next ?_ (F.args_zip_next_1 _))))
  refine zmx_end (show A.in1.handled = none from hh) U1 U2 D kz ki ko a1 a2 b1 b2 no fun g e k ⟨o, he, ce⟩ => ?_
  exact wpAny_bind (wpAny_isInstance (T := "StopIteration") (b := true) ⟨o, he, ce⟩ isSubtype_stop (wpAny_pure (fin _ k)))
end
/-! ### zip(tuple, list) made -/
abbrev mxA (g : Heap) (r1 : Addr) : Heap := g.push { cls := .type "tuple_iterator", data := .fields #[.ref r1, .int 0 0] }
abbrev mxB (g : Heap) (r1 r2 : Addr) : Heap := (mxA g r1).push { cls := .type "list_iterator", data := .fields #[.ref r2, .int 0 0] }
abbrev mxC (g : Heap) (r1 r2 : Addr) : Heap := (mxB g r1 r2).push { cls := .type "tuple", data := .seq #[.ref g.objs.size, .ref (mxA g r1).objs.size] }
abbrev mxD (g : Heap) (r1 r2 : Addr) : Heap := (mxC g r1 r2).push { cls := .type "tuple", data := .seq #[.none, .none] }
abbrev mxE (g : Heap) (r1 r2 : Addr) : Heap := (mxD g r1 r2).push { cls := .type "zip", data := .fields #[.none, .bool false, .bool false, .ref (mxB g r1 r2).objs.size, .ref (mxC g r1 r2).objs.size] }
theorem mx_made (r1 r2 : Addr) (vs us : Array Value) :
    Meets (Builtin.«zip.__new__» ⟨[.type "zip", .ref r1, .ref r2], []⟩) (fun _ R s => s.heap.IsTuple r1 vs ∧ s.heap.IsList r2 us ∧ R (.ok (.ret (.ref (mxD s.heap r1 r2).objs.size))) { s with heap := mxE s.heap r1 r2 }) :=
  .of_wp fun P w A R s k => by
    obtain ⟨g0, g1, g2, g3, g4⟩ := s
    obtain ⟨k1, k2, k⟩ := k
    have sub := sub_zip
    have t1 : Heap.IsTuple (Shared.heap ⟨g0, g1, g2, g3, g4⟩) r1 vs := k1
    have t2 : Heap.IsList (Shared.heap ⟨g0.push { cls := .type "tuple_iterator", data := .fields #[.ref r1, .int 0 0] }, g1, g2, g3, g4⟩) r2 us := Heap.IsList.push k2 _
    wp_walk using wpAny_pyIter_tuple t1, wpAny_pyIter_list t2
    exact ⟨_, rfl, k⟩
theorem mx_call {P : Program} {w : World} {A : Around} {E : Value → Shared → Prop} {s : Shared} {r1 r2 : Addr} {vs us : Array Value} {Q : Value → Shared → Prop} (k1 : s.heap.IsTuple r1 vs) (k2 : s.heap.IsList r2 us)
    (fin : ∀ g, IsZip g (s.heap.objs.size + 4) (s.heap.objs.size + 2) (s.heap.objs.size + 3) .none → IsPair g (s.heap.objs.size + 2) (.ref s.heap.objs.size) (.ref (s.heap.objs.size + 1)) → IsPair g (s.heap.objs.size + 3) .none .none →
      g.IsTupleIter s.heap.objs.size r1 0 → g.IsListIter (s.heap.objs.size + 1) r2 0 → g.objs.size = s.heap.objs.size + 5 → (∀ c o, s.heap.get? c = some o → g.get? c = some o) → Q (.ref (s.heap.objs.size + 4)) { s with heap := g }) :
    wpAny (model P w) A (call (.type "zip") [.ref r1, .ref r2]) Q E s := by
  refine callType_new F.called_zip (by decide) (F.typeCall_zip_2 _ _) (F.newCall_zip_2 _ _) (fun ob => F.args_object_init_3 ob _ _) F.entry_zip_new (mx_made r1 r2 vs us) ⟨k1, k2, ?_⟩
  have nA : (mxA s.heap r1).objs.size = s.heap.objs.size + 1 := Heap.size_push ..
  have nB : (mxB s.heap r1 r2).objs.size = s.heap.objs.size + 2 := by rw [Heap.size_push, nA]
  have nC : (mxC s.heap r1 r2).objs.size = s.heap.objs.size + 3 := by rw [Heap.size_push, nB]
  have nD : (mxD s.heap r1 r2).objs.size = s.heap.objs.size + 4 := by rw [Heap.size_push, nC]
  have nE : (mxE s.heap r1 r2).objs.size = s.heap.objs.size + 5 := by rw [Heap.size_push, nD]
  have up : ∀ {g : Heap} {c : Addr} {o o' : Obj}, g.get? c = some o → (g.push o').get? c = some o := fun e => Heap.get?_push_of_some _ e
  have zE : (mxE s.heap r1 r2).get? (mxD s.heap r1 r2).objs.size = some _ := Heap.get?_push_size _ rfl
  have zD : (mxE s.heap r1 r2).get? (mxC s.heap r1 r2).objs.size = some _ := up (Heap.get?_push_size _ rfl)
  have zC : (mxE s.heap r1 r2).get? (mxB s.heap r1 r2).objs.size = some _ := up (up (Heap.get?_push_size _ rfl))
  have zB : (mxE s.heap r1 r2).get? (mxA s.heap r1).objs.size = some _ := up (up (up (Heap.get?_push_size _ rfl)))
  have zA : (mxE s.heap r1 r2).get? s.heap.objs.size = some _ := up (up (up (up (Heap.get?_push_size _ rfl))))
  show _ ∧ _
  rw [nB, nC, nD] at zE
  rw [nA, nB] at zC
  rw [nC] at zD
  rw [nA] at zB
  rw [nD]
  exact ⟨⟨_, zE, rfl⟩, fin _ zE zC zD ⟨_, zA, rfl, rfl⟩ ⟨_, zB, rfl, rfl⟩ nE fun c o e => up (up (up (up (up e))))⟩
/-- the tuple at a and the list at b as they stand at each turn -/
def Itm (K : PySem.W.Frag) (a b : Addr) : It :=
  ⟨fun i H => ∃ (ys xs : List V) (y x : V), SqT K H a ys ∧ SqL K H b xs ∧ ys[i]? = some y ∧ xs[i]? = some x,
    fun i H v H' => ∃ T y x, v = .ref T ∧ H T = none ∧ H' = upd H T (.tup [y, x]) ∧ (∀ ys, SqT K H a ys → ys[i]? = some y) ∧ ∀ xs, SqL K H b xs → xs[i]? = some x,
    fun i H => ∃ ys xs : List V, SqT K H a ys ∧ SqL K H b xs ∧ (ys.length ≤ i ∨ xs.length ≤ i)⟩
theorem turn_mx {P : Program} {w : World} {K : PySem.W.Frag} {elts : List Expr} {kk : Nat} {tpos : Pos} {a b Z PI' PO j1 j2 : Addr} (D : ZipApart Z PI' PO j1 j2 a b) :
    Turn P w K (.Tuple elts kk tpos) (Itm K a b) [Z, PI', PO, j1, j2] Z (fun i g => IsZip g Z PI' PO .none ∧ IsPair g PI' (.ref j1) (.ref j2) ∧ (∃ x y, IsPair g PO x y) ∧ g.IsTupleIter j1 a i ∧ g.IsListIter j2 b i) := by
  have five : ∀ {c : Addr}, c ∈ [Z, PI', PO, j1, j2] → c = Z ∨ c = PI' ∨ c = PO ∨ c = j1 ∨ c = j2 := fun h => by simpa using h
  have off : ∀ {c : Addr}, c ∉ [Z, PI', PO, j1, j2] → c ≠ Z ∧ c ≠ PI' ∧ c ≠ PO ∧ c ≠ j1 ∧ c ≠ j2 := fun h => by simpa using h
  refine ⟨by simp, fun i g st c hc => ?_, fun i f g st k => ?_, ?_, ?_, fun A i s Q E st h => wpAny_pyIter_zip st.1 h⟩
  · obtain ⟨kz, ki, ⟨x, y, ko⟩, k1, k2⟩ := st
    rcases five hc with e | e | e | e | e <;> subst e
    · exact ⟨_, kz, fun v z => nomatch z⟩
    · exact ⟨_, ki, fun v z => nomatch z⟩
    · exact ⟨_, ko, fun v z => nomatch z⟩
    · exact (rowIt_tup (P := P) (w := w)).ob k1
    · exact (rowIt_lst (P := P) (w := w)).ob k2
  · obtain ⟨kz, ki, ⟨x, y, ko⟩, k1, k2⟩ := st
    exact ⟨k Z (by simp) _ kz, k PI' (by simp) _ ki, ⟨x, y, k PO (by simp) _ ko⟩, k1.at fun o e => k j1 (by simp) o e, k2.at fun o e => k j2 (by simp) o e⟩
  · intro X eP ew eK calm i pins s σ H E I hf st go
    subst eP ew eK
    obtain ⟨kz, ki, ⟨x0, y0, ko⟩, k1, k2⟩ := st
    obtain ⟨ys, xs, y, x, sy, sx, hy, hx⟩ := go
    obtain ⟨ts, rt, pt, _⟩ := I.tuple sy
    obtain ⟨ls, rl, pl, _⟩ := I.list sx
    obtain ⟨u, hu, ru⟩ := rt.get hy
    obtain ⟨v, hv, rv⟩ := rl.get hx
    have lz : Z < s.heap.objs.size := Heap.lt_size kz
    refine zmx_next rowIt_tup rowIt_lst D kz ki ko k1 k2 pt pl.isList (v := u) (u := v) (by simpa using hu) (by simpa using hv) fun g z o m1 m2 t n k => ?_
    refine ⟨_, rfl, wpAny_letOwnedTupleGo_zip (s := { s with heap := g }) z fun g' z' sb => ?_⟩
    have t' : g'.get? s.heap.objs.size = some { cls := .type "tuple", data := .seq #[u, v] } := (sb.2 _ (Nat.ne_of_gt lz)).trans t
    have fresh : ObjOk X.prog X.w (upd H s.heap.objs.size (.tup [y, x])) g' s.heap.objs.size (.tup [y, x]) :=
      ⟨by show 2 ≤ sizeLine; decide, [u, v], .cons ru (.cons rv .nil), ⟨_, t', rfl, _, rfl⟩⟩
    have kk : ∀ c o, c ∉ [Z, PI', PO, j1, j2] → s.heap.get? c = some o → g'.get? c = some o := fun c o nb e =>
      (sb.2 c (off nb).1).trans (k c o (off nb).1 (off nb).2.2.1 (off nb).2.2.2.1 (off nb).2.2.2.2 e)
    refine ⟨.ref s.heap.objs.size, _, I.turnedNew (t' := s.toks) (ch := [Z, PI', PO, j1, j2]) (fun c o nb e => kk c o nb e) hf (Nat.le_refl _) fresh, rfl,
      ⟨_, y, x, rfl, I.hok.fresh (Nat.le_refl _), rfl, fun l hl => by rw [I.tuple_inj hl sy]; exact hy, fun l hl => by rw [I.list_inj hl sx]; exact hx⟩,
      ⟨z', (sb.2 _ D.TIz).trans (k _ _ D.TIz D.TITO D.TIi1 D.TIi2 ki), ⟨u, v, (sb.2 _ D.TOz).trans o⟩, m1.at fun o e => (sb.2 _ D.i1z).trans e, m2.at fun o e => (sb.2 _ D.i2z).trans e⟩, fun c hc => ?_⟩
    have lt : c < s.heap.objs.size := by
      rcases five hc with e | e | e | e | e <;> subst e
      · exact lz
      · exact Heap.lt_size ki
      · exact Heap.lt_size ko
      · obtain ⟨_, e, _⟩ := k1; exact Heap.lt_size e
      · obtain ⟨_, e, _⟩ := k2; exact Heap.lt_size e
    rw [upd_ne (Nat.ne_of_lt lt)]
    exact (hf c hc).1
  · intro X eP ew eK calm i pins s σ H E I hf st no
    subst eP ew eK
    obtain ⟨kz, ki, ⟨x0, y0, ko⟩, k1, k2⟩ := st
    obtain ⟨ys, xs, sy, sx, no⟩ := no
    obtain ⟨ts, rt, pt, _⟩ := I.tuple sy
    obtain ⟨ls, rl, pl, _⟩ := I.list sx
    have l1 := rt.length
    have l2 := rl.length
    refine zmx_none (I.ok.hd calm) rowIt_tup rowIt_lst D kz ki ko k1 k2 pt pl.isList ?_ fun g k => ⟨rfl, I.turnedL (t' := s.toks) (ch := [Z, PI', PO, j1, j2]) (fun c o nb e => k c o (off nb).1 (off nb).2.2.1 (off nb).2.2.2.1 (off nb).2.2.2.2 e) hf⟩
    rcases no with z | z
    · exact .inl (by simp; omega)
    · exact .inr (by simp; omega)
def iZipM (K : PySem.W.Frag) (ta : TA) : TI := fun σ H R => ta σ H fun vs H1 => ∃ a b ys xs, vs = [.ref a, .ref b] ∧ SqT K H1 a ys ∧ SqL K H1 b xs ∧ R (Itm K a b) H1
theorem pi_zipM {X : Cx} {e e2 : Expr} {ta : TA} {p pos tpos : Pos} {elts : List Expr} {kk : Nat} {K : PySem.W.Frag} (eK : X.K = K) (hg : Gl X "zip") (hm : X.mg "zip" = none) (ha : PA X [e, e2] ta)
    (hs : starEach [e, e2] X.env = (false, eval e X.env) :: starEach [e2] X.env := by rfl) (hp : (backTo pos (starEach [e2] X.env)).any (·.1) = false := by rfl) :
    PI X (.Tuple elts kk tpos) (.Call (.Name "zip" p) [e, e2] [] pos) (iZipM K ta) := by
  subst eK
  constructor
  intro pins s σ H R I h
  refine Call_ (ld_blt I hg hm PyProof.Rows.boot_zip (PyProof.Rows.callWith_type1 (thn (ha.run pos pins s σ H _ I h) fun us t ⟨vs, H1, I1, rs, a, b, ys, xs, ev, sy, sx, q⟩ => ?_) hs hp))
  subst ev
  cases rs with
  | cons ra rs =>
  cases rs with
  | cons rb rs =>
  cases rs
  cases ra
  cases rb
  obtain ⟨ts, _, pt, _⟩ := I1.tuple sy
  obtain ⟨ls, _, pl, _⟩ := I1.list sx
  obtain ⟨oa, ha, _⟩ := id pt
  refine mx_call (show t.heap.IsTuple a ts.toArray from pt) pl.isList fun g kz ki ko k1 k2 sz k => wpAny_pyIter_zip kz ?_
  have I2 : Inv X pins σ H1 { t with heap := g } := I1.kept (t' := t.toks) k
  refine ⟨t.heap.objs.size + 4, [t.heap.objs.size + 4, t.heap.objs.size + 2, t.heap.objs.size + 3, t.heap.objs.size, t.heap.objs.size + 1], _, _, H1, rfl, I2, turn_mx (PySem.W.ktu_apart t.heap.objs.size a b (Heap.lt_size ha) pl.lt), ⟨kz, ki, ⟨_, _, ko⟩, k1, k2⟩, fun c hc => ?_, q⟩
  have le : t.heap.objs.size ≤ c := by
    simp only [List.mem_cons, List.not_mem_nil, or_false] at hc
    rcases hc with e | e | e | e | e <;> rw [e] <;> first | exact Nat.le_add_right _ _ | exact Nat.le_refl _
  exact I1.fpOk le (I1.hok.fresh le)
section
variable {K : PySem.W.Frag} {F : Fx} {δ : Se}
theorem w_zipM {t : TA} : WiD K F δ (iZipM K t) (fun M => EA K F δ t fun ds => ∃ xs ys, ds = [.tuple xs, .list ys] ∧ M (zipD xs ys)) :=
  ⟨fun M M' m h => h.mono fun d ⟨xs, ys, e, z⟩ => ⟨xs, ys, e, m _ z⟩, fun O H σ M R S h k => h O H σ S _ fun H1 vs ds k1 S1 t1 ⟨xs, ys, e, m⟩ => by
    subst e
    obtain ⟨v, w, rfl, h1, h2⟩ := dts_two t1
    cases h1 with
    | tup s1 u1 =>
    cases h2 with
    | lst s2 u2 =>
      refine ⟨_, _, _, _, rfl, s1.sq, s2.sq, k H1 _ (zipD xs ys) k1 S1 m fun O2 H2 i st fr => ?_⟩
      have q1 := s1.keep (av' := F.cur O2) (H' := H2) fun c o e => st _ o c e
      have q2 := s2.keep (av' := F.cur O2) (H' := H2) fun c o e => st _ o c e
      have t1 := u1.stp st
      have t2 := u2.stp st
      rw [zipD_len]
      refine ⟨fun hi => ?_, fun hi => ⟨_, _, q1.sq, q2.sq, by rw [t1.length, t2.length]; omega⟩⟩
      have i1 := List.getElem?_eq_getElem (show i < _ by rw [t1.length]; omega)
      have i2 := List.getElem?_eq_getElem (show i < _ by rw [t2.length]; omega)
      refine ⟨⟨_, _, _, _, q1.sq, q2.sq, i1, i2⟩, fun x H3 y => ?_⟩
      obtain ⟨T, x1, y1, rfl, nT, rfl, y2, y3⟩ := y
      obtain ⟨d, e1, t3⟩ := t1.get (y2 _ q1.sq)
      obtain ⟨e, e2, t4⟩ := t2.get (y3 _ q2.sq)
      have sm : Same H2 (upd H2 T (.tup [x1, y1])) := same_new nT
      exact ⟨sm, _, zipD_get e1 e2, .tup (.of (fr _ nT) upd_same) (Dts.stp (O := O2) (O1 := O2) (fun b o c h => ⟨c, sm _ _ h⟩) (.cons t3 (.cons t4 .nil)))⟩⟩
end
section
variable {K : PySem.W.Frag} {F : Fx} {δ : Se} {P : Po} {i j : Nat} {te : TE}
/-- x, y = [..], e: x is an own list -/
theorem s_parO1 {t : TA} (h : EA K F δ t fun ds => ds.length ≤ 1000000 ∧ EV K F δ te fun d => P.N ((δ.set i (.own ds)).set j (.dat d))) : SV K F δ (tPar i j (tCons (tLst t) (tCons te tNil))) P := fun O H σ S D n r b c =>
  h O H σ S _ fun H1 vs ds k1 S1 t1 ⟨hl, h2⟩ => ⟨small_size (by rw [t1.length]; exact hl), fun p np => by
    obtain ⟨S2, st2⟩ := S1.addOw np i vs
    refine h2 _ _ σ S2 _ fun H3 v d k3 S3 t3 q => ?_
    have nmu : ¬ F.mu p := (S1.bs.fresh np).2.1
    have e3 : H3 p = some (.lst vs) := k3 _ _ nmu upd_same
    have st3 := k3.stp (O := (i, p) :: O) S.bs.ok
    refine ⟨_, _, rfl, n _ _ _ _ ((k1.stp S.bs.ok).trans (st2.trans st3)) ((S3.slot (i := i) (v := .ref p) (s := .own ds) ⟨p, vs, rfl, List.mem_cons_self, e3, (t1.stp st2).stp st3⟩).put t3) q⟩⟩
end
end Pg
/-! Pg45: whole-valued looks on a line, told by steps, in plain Lean. -/
namespace Pg
/-- an entry: height, at, behind -/
abbrev E3 := Rat × Int × Int
/-- what a look has at a height: ahead, at, behind -/
abbrev T3 := Int × Int × Int
def look3 (acc : Int) : List E3 → Rat → T3
  | [], _ => (acc, acc, acc)
  | (k, a, b) :: r, h => if h = k then (acc, a, b) else if h < k then (acc, acc, acc) else look3 b r h
def AscE (s : List E3) : Prop := s.Pairwise fun x y => x.1 < y.1
def noIdle (acc : Int) : List E3 → Prop
  | [] => True
  | (_, a, b) :: r => ¬ (a = acc ∧ b = acc) ∧ noIdle b r
def endE (acc : Int) : List E3 → Int
  | [] => acc
  | (_, _, b) :: r => endE b r
/-- without the entries at which nothing changes -/
def inF (acc : Int) : List E3 → List E3
  | [] => []
  | (k, a, b) :: r => if a = acc ∧ b = acc then inF acc r else (k, a, b) :: inF b r
theorem look3_le {acc : Int} : ∀ {s : List E3} {h : Rat}, (∀ e ∈ s, h ≤ e.1) → (look3 acc s h).1 = acc
  | [], _, _ => rfl
  | (k, a, b) :: r, h, z => by
    have z1 := z _ List.mem_cons_self
    unfold look3
    split
    · rfl
    · split
      · rfl
      · rename_i n1 n2
        have z1 : h ≤ k := z1
        grind
theorem look3_lt {acc : Int} {s : List E3} {h : Rat} (z : ∀ e ∈ s, h < e.1) : look3 acc s h = (acc, acc, acc) := by
  cases s with
  | nil => rfl
  | cons e r =>
    obtain ⟨k, a, b⟩ := e
    have z1 : h < k := z _ List.mem_cons_self
    unfold look3
    rw [if_neg (by grind), if_pos z1]
theorem look3_off {acc : Int} : ∀ {s : List E3} {h : Rat}, (∀ e ∈ s, h ≠ e.1) → (look3 acc s h).1 = (look3 acc s h).2.1 ∧ (look3 acc s h).2.1 = (look3 acc s h).2.2
  | [], _, _ => ⟨rfl, rfl⟩
  | (k, a, b) :: r, h, z => by
    have z1 : h ≠ k := z _ List.mem_cons_self
    unfold look3
    rw [if_neg z1]
    split
    · exact ⟨rfl, rfl⟩
    · exact look3_off fun e m => z e (List.mem_cons_of_mem _ m)
theorem look3_at {acc : Int} : ∀ {s : List E3}, AscE s → ∀ e ∈ s, (look3 acc s e.1).2 = e.2
  | [], _, e, m => by cases m
  | (k, a, b) :: r, A, e, m => by
    obtain ⟨A1, A2⟩ := List.pairwise_cons.mp A
    rcases List.mem_cons.mp m with z | m
    · subst z
      unfold look3
      rw [if_pos rfl]
    · have lt : k < e.1 := A1 e m
      unfold look3
      rw [if_neg (by grind), if_neg (by grind)]
      exact look3_at A2 e m
theorem look3_gap {acc : Int} : ∀ {s : List E3} {k h : Rat}, AscE s → k < h → (∀ e ∈ s, ¬ (k < e.1 ∧ e.1 < h)) → (look3 acc s k).2.2 = (look3 acc s h).1
  | [], _, _, _, _, _ => rfl
  | (j, a, b) :: r, k, h, A, l, z => by
    obtain ⟨A1, A2⟩ := List.pairwise_cons.mp A
    have z1 : ¬ (k < j ∧ j < h) := z _ List.mem_cons_self
    have zr : ∀ e ∈ r, ¬ (k < e.1 ∧ e.1 < h) := fun e m => z e (List.mem_cons_of_mem _ m)
    by_cases c : k = j
    · subst c
      have low : (look3 b r h).1 = b := look3_le fun e m => by
        have h1 := A1 e m
        have h2 := zr e m
        have h1 : k < e.1 := h1
        grind
      have e1 : look3 acc ((k, a, b) :: r) k = (acc, a, b) := by
        unfold look3
        rw [if_pos rfl]
      have e2 : look3 acc ((k, a, b) :: r) h = look3 b r h := by
        rw [look3, if_neg (by grind), if_neg (by grind)]
      rw [e1, e2, low]
    · by_cases c2 : k < j
      · have e1 : look3 acc ((j, a, b) :: r) k = (acc, acc, acc) := by
          rw [look3, if_neg c, if_pos c2]
        have e2 : (look3 acc ((j, a, b) :: r) h).1 = acc := by
          rw [look3]
          split
          · rfl
          · split
            · rfl
            · grind
        rw [e1, e2]
      · have e1 : look3 acc ((j, a, b) :: r) k = look3 b r k := by rw [look3, if_neg c, if_neg c2]
        have e2 : look3 acc ((j, a, b) :: r) h = look3 b r h := by rw [look3, if_neg (by grind), if_neg (by grind)]
        rw [e1, e2]
        exact look3_gap A2 l zr
theorem look3_uniq : ∀ {s t : List E3} {acc : Int}, AscE s → AscE t → noIdle acc s → noIdle acc t → (∀ h, look3 acc s h = look3 acc t h) → s = t
  | [], [], _, _, _, _, _, _ => rfl
  | [], (k, a, b) :: r, acc, _, _, _, n, h => by
    have z := h k
    have e : look3 acc ((k, a, b) :: r) k = (acc, a, b) := by rw [look3, if_pos rfl]
    rw [e] at z
    simp only [look3, Prod.mk.injEq] at z
    exact (n.1 ⟨z.2.1.symm, z.2.2.symm⟩).elim
  | (k, a, b) :: r, [], acc, _, _, n, _, h => by
    have z := h k
    have e : look3 acc ((k, a, b) :: r) k = (acc, a, b) := by rw [look3, if_pos rfl]
    rw [e] at z
    simp only [look3, Prod.mk.injEq] at z
    exact (n.1 ⟨z.2.1, z.2.2⟩).elim
  | (k, a, b) :: r, (j, c, d) :: q, acc, A, B, n, m, h => by
    obtain ⟨A1, A2⟩ := List.pairwise_cons.mp A
    obtain ⟨B1, B2⟩ := List.pairwise_cons.mp B
    have e1 : look3 acc ((k, a, b) :: r) k = (acc, a, b) := by rw [look3, if_pos rfl]
    have e2 : look3 acc ((j, c, d) :: q) j = (acc, c, d) := by rw [look3, if_pos rfl]
    have kj : k = j := by
      by_cases c1 : k < j
      · have z := h k
        have e3 : look3 acc ((j, c, d) :: q) k = (acc, acc, acc) := by rw [look3, if_neg (by grind), if_pos c1]
        rw [e1, e3] at z
        simp only [Prod.mk.injEq] at z
        exact (n.1 ⟨z.2.1, z.2.2⟩).elim
      · by_cases c2 : j < k
        · have z := h j
          have e3 : look3 acc ((k, a, b) :: r) j = (acc, acc, acc) := by rw [look3, if_neg (by grind), if_pos c2]
          rw [e2, e3] at z
          simp only [Prod.mk.injEq] at z
          exact (m.1 ⟨z.2.1.symm, z.2.2.symm⟩).elim
        · grind
    subst kj
    have z := h k
    rw [e1, e2] at z
    simp only [Prod.mk.injEq] at z
    obtain ⟨_, rfl, rfl⟩ := z
    rw [look3_uniq A2 B2 n.2 m.2 fun x => ?_]
    by_cases c : k < x
    · have z := h x
      rw [look3, if_neg (by grind), if_neg (by grind), look3, if_neg (by grind), if_neg (by grind)] at z
      exact z
    · have q1 : look3 b r x = (b, b, b) := look3_lt fun e me => by
        have h1 : k < e.1 := A1 e me
        grind
      have q2 : look3 b q x = (b, b, b) := look3_lt fun e me => by
        have h1 : k < e.1 := B1 e me
        grind
      rw [q1, q2]
theorem inF_sub {acc : Int} : ∀ {s : List E3}, ∀ e ∈ inF acc s, e ∈ s
  | [], e, m => by cases m
  | (k, a, b) :: r, e, m => by
    unfold inF at m
    split at m
    · exact List.mem_cons_of_mem _ (inF_sub e m)
    · rcases List.mem_cons.mp m with z | m
      · rw [z]
        exact List.mem_cons_self
      · exact List.mem_cons_of_mem _ (inF_sub e m)
theorem inF_asc {acc : Int} : ∀ {s : List E3}, AscE s → AscE (inF acc s)
  | [], _ => List.Pairwise.nil
  | (k, a, b) :: r, A => by
    obtain ⟨A1, A2⟩ := List.pairwise_cons.mp A
    unfold inF
    split
    · exact inF_asc A2
    · exact List.pairwise_cons.mpr ⟨fun e m => A1 e (inF_sub e m), inF_asc A2⟩
theorem inF_noIdle {acc : Int} : ∀ {s : List E3}, noIdle acc (inF acc s)
  | [] => trivial
  | (k, a, b) :: r => by
    unfold inF
    split
    · exact inF_noIdle
    · rename_i c
      exact ⟨c, inF_noIdle⟩
theorem inF_len {acc : Int} : ∀ {s : List E3}, (inF acc s).length ≤ s.length
  | [] => Nat.le_refl _
  | (k, a, b) :: r => by
    unfold inF
    have h1 := inF_len (acc := acc) (s := r)
    have h2 := inF_len (acc := b) (s := r)
    split
    · exact Nat.le_trans h1 (Nat.le_succ _)
    · exact Nat.succ_le_succ h2
theorem inF_look {acc : Int} : ∀ {s : List E3} {h : Rat}, AscE s → look3 acc (inF acc s) h = look3 acc s h
  | [], _, _ => rfl
  | (k, a, b) :: r, h, A => by
    obtain ⟨A1, A2⟩ := List.pairwise_cons.mp A
    unfold inF
    split
    · rename_i c
      obtain ⟨rfl, rfl⟩ := c
      rw [inF_look A2, look3]
      split
      · rename_i e
        subst e
        exact look3_lt fun e m => A1 e m
      · split
        · rename_i l
          exact look3_lt fun e m => by
            have h1 : k < e.1 := A1 e m
            grind
        · rfl
    · rw [look3, look3]
      split
      · rfl
      · split
        · rfl
        · exact inF_look A2
theorem endE_look {acc : Int} : ∀ {s : List E3} {h : Rat}, (∀ e ∈ s, e.1 < h) → endE acc s = (look3 acc s h).1
  | [], _, _ => rfl
  | (k, a, b) :: r, h, z => by
    have z1 : k < h := z _ List.mem_cons_self
    rw [look3, if_neg (by grind), if_neg (by grind)]
    exact endE_look fun e m => z e (List.mem_cons_of_mem _ m)
/-! ### looks that change at some heights alone -/
structure Crit (hs : List Rat) (F : Rat → T3) : Prop where
  off : ∀ h, h ∉ hs → (F h).1 = (F h).2.1 ∧ (F h).2.1 = (F h).2.2
  gap : ∀ k h, k < h → (∀ x ∈ hs, ¬ (k < x ∧ x < h)) → (F k).2.2 = (F h).1
  low : ∀ h, (∀ x ∈ hs, h ≤ x) → (F h).1 = 0
def addT (x y : T3) : T3 := (x.1 + y.1, x.2.1 + y.2.1, x.2.2 + y.2.2)
theorem Crit.add {hs : List Rat} {F G : Rat → T3} (f : Crit hs F) (g : Crit hs G) : Crit hs fun h => addT (F h) (G h) where
  off h n := by
    have a := f.off h n
    have b := g.off h n
    exact ⟨by show _ + _ = _ + _; rw [a.1, b.1], by show _ + _ = _ + _; rw [a.2, b.2]⟩
  gap k h l n := by show _ + _ = _ + _; rw [f.gap k h l n, g.gap k h l n]
  low h n := by show _ + _ = _; rw [f.low h n, g.low h n]; rfl
theorem Crit.zero {hs : List Rat} : Crit hs fun _ => (0, 0, 0) := ⟨fun _ _ => ⟨rfl, rfl⟩, fun _ _ _ _ => rfl, fun _ _ => rfl⟩
theorem Crit.more {hs hs' : List Rat} {F : Rat → T3} (f : Crit hs F) (m : ∀ x ∈ hs, x ∈ hs') : Crit hs' F :=
  ⟨fun h n => f.off h fun z => n (m h z), fun k h l n => f.gap k h l fun x z => n x (m x z), fun h n => f.low h fun x z => n x (m x z)⟩
theorem crit_look {s : List E3} (A : AscE s) : Crit (s.map (·.1)) (look3 0 s) where
  off h n := look3_off fun e m z => n (List.mem_map.mpr ⟨e, m, z.symm⟩)
  gap k h l n := look3_gap A l fun e m => n e.1 (List.mem_map_of_mem m)
  low h n := look3_le fun e m => n e.1 (List.mem_map_of_mem m)
def ent (F : Rat → T3) (h : Rat) : E3 := (h, (F h).2)
theorem ent_asc {F : Rat → T3} {hs : List Rat} (A : hs.Pairwise (· < ·)) : AscE (hs.map (ent F)) := by
  unfold AscE
  rw [List.pairwise_map]
  exact A
theorem crit_tail {F : Rat → T3} : ∀ {hs : List Rat} {k h : Rat}, (k :: hs).Pairwise (· < ·) → (∀ x, x ∉ k :: hs → k < x → (F x).1 = (F x).2.1 ∧ (F x).2.1 = (F x).2.2) →
    (∀ x y, k ≤ x → x < y → (∀ z ∈ hs, ¬ (x < z ∧ z < y)) → (F x).2.2 = (F y).1) → k < h → look3 (F k).2.2 (hs.map (ent F)) h = F h
  | [], k, h, A, off, gap, l => by
    have e := gap k h (by grind) l (fun z m => by cases m)
    have o := off h (by simp; grind) l
    show ((F k).2.2, (F k).2.2, (F k).2.2) = F h
    rw [e]
    have : F h = ((F h).1, (F h).2.1, (F h).2.2) := rfl
    rw [← o.2, ← o.1] at this
    exact this.symm
  | j :: r, k, h, A, off, gap, l => by
    obtain ⟨A1, A2⟩ := List.pairwise_cons.mp A
    obtain ⟨A3, A4⟩ := List.pairwise_cons.mp A2
    have kj : k < j := A1 j List.mem_cons_self
    show look3 _ ((j, (F j).2.1, (F j).2.2) :: r.map (ent F)) h = _
    rw [look3]
    have before : ∀ x, k < x → x ≤ j → (F k).2.2 = (F x).1 := fun x h1 h2 => gap k x (by grind) h1 fun z m => by
      rcases List.mem_cons.mp m with e | m
      · rw [e]
        grind
      · have := A3 z m
        grind
    split
    · rename_i e
      subst e
      rw [before h kj (by grind)]
    · split
      · rename_i n1 lt
        have o := off h (fun m => by
          rcases List.mem_cons.mp m with e | m
          · grind
          · rcases List.mem_cons.mp m with e | m
            · grind
            · have := A3 h m
              grind) l
        rw [before h l (by grind)]
        have : F h = ((F h).1, (F h).2.1, (F h).2.2) := rfl
        rw [← o.2, ← o.1] at this
        exact this.symm
      · rename_i n1 n2
        refine crit_tail A2 (fun x n lx => off x (fun m => ?_) (by grind)) (fun x y lx ly z => gap x y (by grind) ly fun w m => ?_) (by grind)
        · rcases List.mem_cons.mp m with e | m
          · grind
          · exact n m
        · rcases List.mem_cons.mp m with e | m
          · rw [e]
            grind
          · exact z w m
theorem crit_map {F : Rat → T3} {hs : List Rat} (A : hs.Pairwise (· < ·)) (c : Crit hs F) (h : Rat) : look3 0 (hs.map (ent F)) h = F h := by
  have all : ∀ {x : Rat}, x ∉ hs → (F x).1 = 0 → F x = (0, 0, 0) := fun {x} n z => by
    have o := c.off x n
    have e : F x = ((F x).1, (F x).2.1, (F x).2.2) := rfl
    rw [← o.2, ← o.1, z] at e
    exact e
  cases hs with
  | nil => exact (all (by simp) (c.low h fun x m => by cases m)).symm
  | cons k r =>
    obtain ⟨A1, A2⟩ := List.pairwise_cons.mp A
    show look3 0 ((k, (F k).2.1, (F k).2.2) :: r.map (ent F)) h = _
    have least : ∀ x, x ≤ k → (F x).1 = 0 := fun x l => c.low x fun y m => by
      rcases List.mem_cons.mp m with e | m
      · rw [e]
        exact l
      · have := A1 y m
        grind
    rw [look3]
    split
    · rename_i e
      subst e
      have := least h (by grind)
      rw [← this]
    · split
      · rename_i n1 lt
        refine (all (fun m => ?_) (least h (by grind))).symm
        rcases List.mem_cons.mp m with e | m
        · exact n1 e
        · have := A1 h m
          grind
      · rename_i n1 n2
        refine crit_tail A (fun x n _ => c.off x n) (fun x y lx ly z => c.gap x y ly fun w m => ?_) (by grind)
        rcases List.mem_cons.mp m with e | m
        · rw [e]
          grind
        · exact z w m
/-- the one tuple of steps of a look -/
structure Tells (s : List E3) (F : Rat → T3) : Prop where
  asc : AscE s
  idle : noIdle 0 s
  look : ∀ h, look3 0 s h = F h
theorem Tells.uniq {s t : List E3} {F : Rat → T3} (a : Tells s F) (b : Tells t F) : s = t := look3_uniq a.asc b.asc a.idle b.idle fun h => by rw [a.look, b.look]
theorem tells_map {F : Rat → T3} {hs : List Rat} (A : hs.Pairwise (· < ·)) (c : Crit hs F) : Tells (inF 0 (hs.map (ent F))) F :=
  ⟨inF_asc (ent_asc A), inF_noIdle, fun h => by rw [inF_look (ent_asc A), crit_map A c]⟩
theorem Tells.inF {s : List E3} {F : Rat → T3} (A : AscE s) (h : ∀ x, look3 0 s x = F x) : Tells (inF 0 s) F := ⟨inF_asc A, inF_noIdle, fun x => by rw [inF_look A, h]⟩
theorem Tells.crit {s : List E3} {F : Rat → T3} (a : Tells s F) : Crit (s.map (·.1)) F := by
  have e : F = look3 0 s := funext fun h => (a.look h).symm
  rw [e]
  exact crit_look a.asc
/-! ### weighted stretches -/
structure Rw where
  lo : Rat
  hi : Rat
  n : Int
def has3 (r : Rw) (h : Rat) : T3 := (if r.lo < h ∧ h ≤ r.hi then r.n else 0, if r.lo ≤ h ∧ h ≤ r.hi then r.n else 0, if r.lo ≤ h ∧ h < r.hi then r.n else 0)
def V3 (rs : List Rw) (h : Rat) : T3 := ((rs.map fun r => (has3 r h).1).sum, (rs.map fun r => (has3 r h).2.1).sum, (rs.map fun r => (has3 r h).2.2).sum)
theorem V3_cons (r : Rw) (rs : List Rw) : V3 (r :: rs) = fun h => addT (has3 r h) (V3 rs h) := rfl
theorem V3_append (a b : List Rw) (h : Rat) : V3 (a ++ b) h = addT (V3 a h) (V3 b h) := by
  unfold V3 addT
  simp only [List.map_append, List.sum_append]
theorem crit_row {hs : List Rat} {r : Rw} (l : r.lo ≤ r.hi) (h1 : r.lo ∈ hs) (h2 : r.hi ∈ hs) : Crit hs (has3 r) where
  off h n := by
    have e1 : h ≠ r.lo := fun e => n (e ▸ h1)
    have e2 : h ≠ r.hi := fun e => n (e ▸ h2)
    simp only [has3]
    constructor <;> grind
  gap k h lt n := by
    have e1 := n _ h1
    have e2 := n _ h2
    simp only [has3]
    grind
  low h n := by
    have e1 := n _ h1
    have e2 := n _ h2
    simp only [has3]
    grind
theorem crit_rows {hs : List Rat} : ∀ {rs : List Rw}, (∀ r ∈ rs, r.lo ≤ r.hi ∧ r.lo ∈ hs ∧ r.hi ∈ hs) → Crit hs (V3 rs)
  | [], _ => Crit.zero
  | r :: rs, h => by
    rw [V3_cons]
    obtain ⟨a, b, c⟩ := h r List.mem_cons_self
    exact (crit_row a b c).add (crit_rows fun x m => h x (List.mem_cons_of_mem _ m))
/-- ascending, each once: just the ends -/
structure Ends (rs : List Rw) (hs : List Rat) : Prop where
  asc : hs.Pairwise (· < ·)
  mem : ∀ h, h ∈ hs ↔ ∃ r ∈ rs, h = r.lo ∨ h = r.hi
def RowsOk (rs : List Rw) : Prop := ∀ r ∈ rs, r.lo ≤ r.hi
theorem tells_rows {rs : List Rw} {hs : List Rat} (ok : RowsOk rs) (E : Ends rs hs) : Tells (inF 0 (hs.map (ent (V3 rs)))) (V3 rs) :=
  tells_map E.asc (crit_rows fun r m => ⟨ok r m, (E.mem _).mpr ⟨r, m, .inl rfl⟩, (E.mem _).mpr ⟨r, m, .inr rfl⟩⟩)
/-! ### tops, bottoms -/
def P2Asc (l : List (Rat × Int)) : Prop := l.Pairwise fun x y => x.1 < y.1
theorem p2_uniq : ∀ {s t : List (Rat × Int)}, P2Asc s → P2Asc t → (∀ x, x ∈ s ↔ x ∈ t) → s = t
  | [], [], _, _, _ => rfl
  | [], y :: r, _, _, h => by
    have := (h y).mpr List.mem_cons_self
    cases this
  | x :: r, [], _, _, h => by
    have := (h x).mp List.mem_cons_self
    cases this
  | x :: r, y :: q, A, B, h => by
    obtain ⟨A1, A2⟩ := List.pairwise_cons.mp A
    obtain ⟨B1, B2⟩ := List.pairwise_cons.mp B
    have e : x = y := by
      rcases List.mem_cons.mp ((h x).mp List.mem_cons_self) with e | m
      · exact e
      · rcases List.mem_cons.mp ((h y).mpr List.mem_cons_self) with e | m2
        · exact e.symm
        · have := A1 y m2
          have := B1 x m
          grind
    subst e
    rw [p2_uniq A2 B2 fun z => ?_]
    constructor
    · intro m
      rcases List.mem_cons.mp ((h z).mp (List.mem_cons_of_mem _ m)) with e | m2
      · have := A1 z m
        rw [e] at this
        grind
      · exact m2
    · intro m
      rcases List.mem_cons.mp ((h z).mpr (List.mem_cons_of_mem _ m)) with e | m2
      · have := B1 z m
        rw [e] at this
        grind
      · exact m2
def topsE (s : List E3) : List (Rat × Int) := (s.filter fun e => e.2.1 ≠ e.2.2).map fun e => (e.1, e.2.1 - e.2.2)
/-- each entry with what stands ahead of it -/
def aheadE (acc : Int) : List E3 → List (E3 × Int)
  | [] => []
  | (k, a, b) :: r => ((k, a, b), acc) :: aheadE b r
theorem aheadE_fst {acc : Int} : ∀ {s : List E3}, (aheadE acc s).map (·.1) = s
  | [] => rfl
  | (k, a, b) :: r => by
    show _ :: (aheadE b r).map (·.1) = _
    rw [aheadE_fst]
theorem aheadE_look {acc : Int} : ∀ {s : List E3}, AscE s → ∀ e ∈ aheadE acc s, look3 acc s e.1.1 = (e.2, e.1.2)
  | [], _, e, m => by cases m
  | (k, a, b) :: r, A, e, m => by
    obtain ⟨A1, A2⟩ := List.pairwise_cons.mp A
    rcases List.mem_cons.mp m with z | m
    · subst z
      show look3 acc _ k = _
      rw [look3, if_pos rfl]
    · have me : e.1 ∈ r := by
        rw [← aheadE_fst (acc := b) (s := r)]
        exact List.mem_map_of_mem m
      have lt : k < e.1.1 := A1 e.1 me
      rw [look3, if_neg (by grind), if_neg (by grind)]
      exact aheadE_look A2 e m
theorem tops_asc {s : List E3} (A : AscE s) : P2Asc (topsE s) := by
  unfold topsE P2Asc
  rw [List.pairwise_map]
  exact List.Pairwise.filter _ A
theorem mem_tops {s : List E3} {F : Rat → T3} (T : Tells s F) {k : Rat} {d : Int} : (k, d) ∈ topsE s ↔ d ≠ 0 ∧ (F k).2.1 - (F k).2.2 = d := by
  unfold topsE
  rw [List.mem_map]
  constructor
  · rintro ⟨e, m, z⟩
    obtain ⟨m1, m2⟩ := List.mem_filter.mp m
    have m2 : e.2.1 ≠ e.2.2 := of_decide_eq_true m2
    have l := look3_at (acc := 0) T.asc e m1
    rw [T.look] at l
    simp only [Prod.mk.injEq] at z
    obtain ⟨rfl, rfl⟩ := z
    rw [l]
    exact ⟨by omega, rfl⟩
  · rintro ⟨n, e⟩
    have hk : k ∈ s.map (·.1) := by
      refine Classical.byContradiction fun c => ?_
      have := (T.crit.off k c).2
      omega
    obtain ⟨x, mx, rfl⟩ := List.mem_map.mp hk
    have l := look3_at (acc := 0) T.asc x mx
    rw [T.look] at l
    rw [l] at e
    exact ⟨x, List.mem_filter.mpr ⟨mx, decide_eq_true (by omega)⟩, by rw [← e]⟩
/-- the weights by one end -/
def wAt (f : Rw → Rat) (rs : List Rw) (h : Rat) : Int := (rs.map fun r => if f r = h then r.n else 0).sum
theorem v3_top {rs : List Rw} (ok : RowsOk rs) (h : Rat) : (V3 rs h).2.1 - (V3 rs h).2.2 = wAt Rw.hi rs h := by
  induction rs with
  | nil => rfl
  | cons r rs ih =>
    have i := ih fun x m => ok x (List.mem_cons_of_mem _ m)
    have l := ok r List.mem_cons_self
    have e : (has3 r h).2.1 - (has3 r h).2.2 = if r.hi = h then r.n else 0 := by
      simp only [has3]
      grind
    have e2 : wAt Rw.hi (r :: rs) h = (if r.hi = h then r.n else 0) + wAt Rw.hi rs h := rfl
    rw [e2, ← e, ← i]
    rw [V3_cons]
    simp only [addT]
    omega
theorem v3_bot {rs : List Rw} (ok : RowsOk rs) (h : Rat) : (V3 rs h).2.1 - (V3 rs h).1 = wAt Rw.lo rs h := by
  induction rs with
  | nil => rfl
  | cons r rs ih =>
    have i := ih fun x m => ok x (List.mem_cons_of_mem _ m)
    have l := ok r List.mem_cons_self
    have e : (has3 r h).2.1 - (has3 r h).1 = if r.lo = h then r.n else 0 := by
      simp only [has3]
      grind
    have e2 : wAt Rw.lo (r :: rs) h = (if r.lo = h then r.n else 0) + wAt Rw.lo rs h := rfl
    rw [e2, ← e, ← i]
    rw [V3_cons]
    simp only [addT]
    omega
def endsL (f : Rw → Rat) (rs : List Rw) (hs : List Rat) : List (Rat × Int) := (hs.map fun h => (h, wAt f rs h)).filter fun p => p.2 ≠ 0
theorem endsL_asc {f : Rw → Rat} {rs : List Rw} {hs : List Rat} (A : hs.Pairwise (· < ·)) : P2Asc (endsL f rs hs) := by
  unfold endsL P2Asc
  refine List.Pairwise.filter _ ?_
  rw [List.pairwise_map]
  exact A
theorem wAt_off {f : Rw → Rat} {h : Rat} : ∀ {rs : List Rw}, (∀ r ∈ rs, f r ≠ h) → wAt f rs h = 0
  | [], _ => rfl
  | r :: rs, n => by
    have e2 : wAt f (r :: rs) h = (if f r = h then r.n else 0) + wAt f rs h := rfl
    rw [e2, if_neg (n r List.mem_cons_self), wAt_off fun x m => n x (List.mem_cons_of_mem _ m)]
    rfl
theorem mem_endsL {f : Rw → Rat} {rs : List Rw} {hs : List Rat} (m : ∀ r ∈ rs, f r ∈ hs) {k : Rat} {d : Int} : (k, d) ∈ endsL f rs hs ↔ d ≠ 0 ∧ wAt f rs k = d := by
  unfold endsL
  rw [List.mem_filter, List.mem_map]
  constructor
  · rintro ⟨⟨h, mh, z⟩, n⟩
    simp only [Prod.mk.injEq] at z
    obtain ⟨rfl, rfl⟩ := z
    exact ⟨of_decide_eq_true n, rfl⟩
  · rintro ⟨n, e⟩
    refine ⟨⟨k, ?_, by rw [e]⟩, decide_eq_true n⟩
    refine Classical.byContradiction fun c => n ?_
    rw [← e]
    exact wAt_off fun r mr z => c (z ▸ m r mr)
theorem tops_ends {s : List E3} {rs : List Rw} {hs : List Rat} (ok : RowsOk rs) (T : Tells s (V3 rs)) (A : hs.Pairwise (· < ·)) (m : ∀ r ∈ rs, r.hi ∈ hs) : topsE s = endsL Rw.hi rs hs :=
  p2_uniq (tops_asc T.asc) (endsL_asc A) fun ⟨k, d⟩ => by rw [mem_tops T, mem_endsL m, v3_top ok]
/-! ### sums -/
theorem sum_at {k : Rat} {n : Int} : ∀ {hs : List Rat}, hs.Nodup → (hs.map fun h => if k = h then n else 0).sum = if k ∈ hs then n else 0
  | [], _ => rfl
  | h :: r, nd => by
    obtain ⟨n1, n2⟩ := List.nodup_cons.mp nd
    rw [List.map_cons, List.sum_cons, sum_at n2]
    by_cases c : k = h
    · subst c
      rw [if_pos rfl, if_neg n1, if_pos List.mem_cons_self]
      omega
    · rw [if_neg c]
      by_cases c2 : k ∈ r
      · rw [if_pos c2, if_pos (List.mem_cons_of_mem _ c2)]
        omega
      · rw [if_neg c2, if_neg (fun m => (List.mem_cons.mp m).elim c c2)]
        rfl
theorem sum_add {α : Type} (f g : α → Int) : ∀ l : List α, (l.map fun x => f x + g x).sum = (l.map f).sum + (l.map g).sum
  | [] => rfl
  | x :: r => by
    simp only [List.map_cons, List.sum_cons, sum_add f g r]
    omega
theorem sum_zero {α : Type} : ∀ l : List α, (l.map fun _ => (0 : Int)).sum = 0
  | [] => rfl
  | x :: r => by
    simp only [List.map_cons, List.sum_cons, sum_zero r]
    omega
theorem asc_nd {hs : List Rat} (A : hs.Pairwise (· < ·)) : hs.Nodup := List.Pairwise.imp (fun {a b} h e => by rw [e] at h; grind) A
/-- sums by ends are sums by rows -/
theorem sum_ends {f : Rw → Rat} {hs : List Rat} (A : hs.Pairwise (· < ·)) (p : Rat → Bool) : ∀ {rs : List Rw}, (∀ r ∈ rs, f r ∈ hs) → (hs.map fun h => if p h then wAt f rs h else 0).sum = (rs.map fun r => if p (f r) then r.n else 0).sum
  | [], _ => by
    have e : (fun h => if p h = true then wAt f [] h else 0) = fun _ => (0 : Int) := funext fun h => by split <;> rfl
    rw [e, sum_zero]
    rfl
  | r :: rs, m => by
    have e : (fun h => if p h = true then wAt f (r :: rs) h else 0) = fun h => (if f r = h then (if p (f r) then r.n else 0) else 0) + (if p h = true then wAt f rs h else 0) := funext fun h => by
      have e2 : wAt f (r :: rs) h = (if f r = h then r.n else 0) + wAt f rs h := rfl
      rw [e2]
      by_cases c : f r = h
      · subst c
        split <;> simp
      · rw [if_neg c, if_neg c]
        split <;> simp
    rw [e, sum_add, sum_at (asc_nd A), if_pos (m r List.mem_cons_self), sum_ends A p fun x mx => m x (List.mem_cons_of_mem _ mx)]
    rfl
theorem sum_keep (p : Rat → Bool) : ∀ l : List (Rat × Int), ((l.filter fun x => x.2 ≠ 0).map fun x => if p x.1 then x.2 else 0).sum = (l.map fun x => if p x.1 then x.2 else 0).sum
  | [] => rfl
  | x :: r => by
    rw [List.filter_cons]
    split
    · rw [List.map_cons, List.sum_cons, List.map_cons, List.sum_cons, sum_keep]
    · rename_i c
      have z : x.2 = 0 := by
        refine Classical.byContradiction fun n => c (decide_eq_true n)
      rw [List.map_cons, List.sum_cons, sum_keep, z]
      split <;> omega
theorem sum_endsL {f : Rw → Rat} {rs : List Rw} {hs : List Rat} (A : hs.Pairwise (· < ·)) (m : ∀ r ∈ rs, f r ∈ hs) (p : Rat → Bool) : ((endsL f rs hs).map fun x => if p x.1 then x.2 else 0).sum = (rs.map fun r => if p (f r) then r.n else 0).sum := by
  unfold endsL
  rw [sum_keep, List.map_map]
  exact sum_ends A p m
def stepSum (s : List E3) : Int := (s.map fun e => e.2.1 - e.2.2).sum
theorem stepSum_tops : ∀ s : List E3, stepSum s = ((topsE s).map fun x => x.2).sum
  | [] => rfl
  | e :: r => by
    have i := stepSum_tops r
    show e.2.1 - e.2.2 + stepSum r = _
    unfold topsE at i ⊢
    rw [List.filter_cons]
    split
    · rw [List.map_cons, List.map_cons, List.sum_cons, ← i]
    · rename_i c
      have z : e.2.1 = e.2.2 := by
        refine Classical.byContradiction fun n => c (decide_eq_true n)
      rw [← i, z]
      omega
theorem stepSum_rows {s : List E3} {rs : List Rw} {hs : List Rat} (ok : RowsOk rs) (T : Tells s (V3 rs)) (A : hs.Pairwise (· < ·)) (m : ∀ r ∈ rs, r.hi ∈ hs) : stepSum s = (rs.map (·.n)).sum := by
  rw [stepSum_tops, tops_ends ok T A m]
  exact sum_endsL (f := Rw.hi) A m (fun _ => true)
/-- the look by bottoms and tops -/
theorem v3_by_ends {rs : List Rw} (ok : RowsOk rs) (h : Rat) : V3 rs h = ((rs.map fun r => if decide (r.lo < h) then r.n else 0).sum - (rs.map fun r => if decide (r.hi < h) then r.n else 0).sum, (rs.map fun r => if decide (r.lo ≤ h) then r.n else 0).sum - (rs.map fun r => if decide (r.hi < h) then r.n else 0).sum,
    (rs.map fun r => if decide (r.lo ≤ h) then r.n else 0).sum - (rs.map fun r => if decide (r.hi ≤ h) then r.n else 0).sum) := by
  induction rs with
  | nil => rfl
  | cons r rs ih =>
    have l := ok r List.mem_cons_self
    rw [V3_cons]
    show addT (has3 r h) (V3 rs h) = _
    rw [ih fun x m => ok x (List.mem_cons_of_mem _ m)]
    unfold addT has3
    simp only [List.map_cons, List.sum_cons, decide_eq_true_eq]
    refine Prod.ext ?_ (Prod.ext ?_ ?_)
    · show _ + _ = _
      grind
    · show _ + _ = _
      grind
    · show _ + _ = _
      grind
end Pg
/-! Pg53: steps as data. -/
namespace Pg
open PySem PySem.Spec PyProof.Rows L2
/-! ### heights -/
def rD (h : Rat) : PyData := fr h.num h.den
theorem rD_iff {x y : Rat} : PyData.eqv (rD x) (rD y) = true ↔ x = y := by
  unfold rD
  rw [eqv_fr_iff]
  exact ⟨fun ⟨a, b⟩ => Rat.ext a (by omega), fun e => by rw [e]; exact ⟨rfl, rfl⟩⟩
theorem rD_eqv (x y : Rat) : PyData.eqv (rD x) (rD y) = decide (x = y) := by
  rw [Bool.eq_iff_iff, rD_iff, decide_eq_true_iff]
/-- small heights -/
structure Rk (i : Nat) (h : Rat) : Prop where
  n : h.num.natAbs < 2 ^ i
  d : h.den < 2 ^ i
theorem Rk.up {i j : Nat} {h : Rat} (r : Rk i h) (l : i ≤ j) : Rk j h := ⟨abs_up r.n l, Nat.lt_of_lt_of_le r.d (Nat.pow_le_pow_right (by decide) l)⟩
theorem Rk.bn {i : Nat} {h : Rat} (r : Rk i h) (l : i ≤ 100 := by decide) : Bn h.num ∧ Bn (h.den : Int) := ⟨abs_up r.n l, by rw [show Bn (h.den : Int) ↔ ((h.den : Int)).natAbs < 2 ^ 100 from Iff.rfl, Int.natAbs_natCast]; exact Nat.lt_of_lt_of_le r.d (Nat.pow_le_pow_right (by decide) l)⟩
theorem den0 (h : Rat) : (0 : Int) < h.den := by have := h.den_pos; omega
theorem below_iff (x y : Rat) : decide (x.num * (y.den : Int) < y.num * (x.den : Int)) = decide (x < y) := decide_eq_decide.mpr (Rat.lt_iff x y).symm
/-- a fraction made -/
theorem of_frac {p q : Int} (hq : 0 < q) : ∃ g : Rat, frD p q = rD g ∧ g.num.natAbs ≤ p.natAbs ∧ g.den ≤ q.natAbs ∧ g.num * q = p * g.den := by
  obtain ⟨a, b, e, hb, hc, la, lb, hab⟩ := frD_form (p := p) (q := q) (by omega)
  have eb : ((b.natAbs : Nat) : Int) = b := by omega
  refine ⟨⟨a, b.natAbs, by omega, hc⟩, ?_, la, lb, ?_⟩
  · rw [e]
    unfold rD
    rw [eb]
  · show a * q = p * ((b.natAbs : Nat) : Int)
    rw [eb]
    exact hab
theorem mk_rD {a b : Int} (hb : 0 < b) (hc : Nat.gcd a.natAbs b.natAbs = 1) (i : Nat) (ha : a.natAbs < 2 ^ i) (hb2 : b.natAbs < 2 ^ i) : ∃ g : Rat, fr a b = rD g ∧ Rk i g := by
  have eb : ((b.natAbs : Nat) : Int) = b := by omega
  refine ⟨⟨a, b.natAbs, by omega, hc⟩, ?_, ha, hb2⟩
  unfold rD
  rw [eb]
theorem frac_lt {p q : Int} (hq : 0 < q) {g : Rat} (e : g.num * q = p * g.den) (x : Rat) : (x < g ↔ x.num * q < p * x.den) ∧ (g < x ↔ p * x.den < x.num * q) := by
  have dg := den0 g
  have dx := den0 x
  have k : x.num * q * g.den - p * x.den * g.den = (x.num * g.den - g.num * x.den) * q := by
    have : p * x.den * g.den = g.num * q * x.den := by rw [e]; grind
    rw [this]
    grind
  rw [Rat.lt_iff, Rat.lt_iff]
  generalize x.num * (g.den : Int) = A at k ⊢
  generalize g.num * (x.den : Int) = B at k ⊢
  generalize x.num * q = C at k ⊢
  generalize p * (x.den : Int) = D at k ⊢
  have k2 : (C - D) * g.den = (A - B) * q := by rw [Int.sub_mul]; exact k
  refine ⟨⟨fun h => ?_, fun h => ?_⟩, ⟨fun h => ?_, fun h => ?_⟩⟩
  · have h1 := Int.mul_neg_of_neg_of_pos (show A - B < 0 by omega) hq
    by_cases z : C < D
    · exact z
    · have := Int.mul_nonneg (show 0 ≤ C - D by omega) (Int.le_of_lt dg)
      omega
  · have h1 := Int.mul_neg_of_neg_of_pos (show C - D < 0 by omega) dg
    by_cases z : A < B
    · exact z
    · have := Int.mul_nonneg (show 0 ≤ A - B by omega) (Int.le_of_lt hq)
      omega
  · have h1 := Int.mul_pos (show 0 < A - B by omega) hq
    by_cases z : D < C
    · exact z
    · have := Int.mul_nonneg (show 0 ≤ D - C by omega) (Int.le_of_lt dg)
      have : (D - C) * (g.den : Int) = -((C - D) * g.den) := by grind
      omega
  · have h1 := Int.mul_pos (show 0 < C - D by omega) dg
    by_cases z : B < A
    · exact z
    · have := Int.mul_nonneg (show 0 ≤ B - A by omega) (Int.le_of_lt hq)
      have : (B - A) * q = -((A - B) * q) := by grind
      omega
/-! ### data -/
def entD (e : E3) : PyData := .tuple [rD e.1, .int e.2.1, .int e.2.2]
def rwD (r : Rw) : PyData := .tuple [rD r.lo, rD r.hi, .int r.n]
def p2D (p : Rat × Int) : PyData := .tuple [rD p.1, .int p.2]
def toR (d : PyData) : Rat := match d with
  | .tuple [.int a, .int b] => if h : b.natAbs ≠ 0 ∧ Nat.Coprime a.natAbs b.natAbs then ⟨a, b.natAbs, h.1, h.2⟩ else 0
  | _ => 0
theorem toR_rD (h : Rat) : toR (rD h) = h := by
  have d0 := h.den_pos
  show (if z : ((h.den : Int)).natAbs ≠ 0 ∧ Nat.Coprime h.num.natAbs ((h.den : Int)).natAbs then (⟨h.num, ((h.den : Int)).natAbs, z.1, z.2⟩ : Rat) else 0) = h
  rw [dif_pos ⟨by rw [Int.natAbs_natCast]; omega, by rw [Int.natAbs_natCast]; exact h.reduced⟩]
  exact Rat.ext rfl (by show ((h.den : Int)).natAbs = h.den; rw [Int.natAbs_natCast])
def toE (d : PyData) : E3 := match d with
  | .tuple [h, .int a, .int b] => (toR h, a, b)
  | _ => (0, 0, 0)
theorem toE_entD (e : E3) : toE (entD e) = e := by
  show (toR (rD e.1), e.2.1, e.2.2) = e
  rw [toR_rD]
def toRw (d : PyData) : Rw := match d with
  | .tuple [l, h, .int n] => ⟨toR l, toR h, n⟩
  | _ => ⟨0, 0, 0⟩
theorem toRw_rwD (r : Rw) : toRw (rwD r) = r := by
  show Rw.mk (toR (rD r.lo)) (toR (rD r.hi)) r.n = r
  rw [toR_rD, toR_rD]
theorem filter_via {α : Type} {f : α → PyData} {g : PyData → α} (e : ∀ x, g (f x) = x) (p : α → Bool) (l : List α) : (l.map f).filter (fun d => p (g d)) = (l.filter p).map f := by
  rw [List.filter_map]
  congr 2
  funext x
  show p (g (f x)) = p x
  rw [e]
theorem map_via {α β : Type} {f : α → PyData} {g : PyData → α} (e : ∀ x, g (f x) = x) (h : α → β) (l : List α) : (l.map f).map (fun d => h (g d)) = l.map h := by
  rw [List.map_map]
  exact List.map_congr_left fun x _ => by
    show h (g (f x)) = h x
    rw [e]
/-! ### rows in order -/
def insR (h : Rat) (T : List Rat) : List Rat := T.filter (fun x => decide (x < h)) ++ h :: T.drop (T.filter fun x => decide (x < h)).length
theorem insR_ok {h : Rat} : ∀ {T : List Rat}, T.Pairwise (· < ·) → h ∉ T → (insR h T).Pairwise (· < ·) ∧ ∀ x, x ∈ insR h T ↔ x = h ∨ x ∈ T
  | [], _, _ => ⟨by simp [insR], fun x => by simp [insR]⟩
  | a :: r, A, n => by
    obtain ⟨A1, A2⟩ := List.pairwise_cons.mp A
    by_cases c : a < h
    · have e : insR h (a :: r) = a :: insR h r := by
        unfold insR
        rw [List.filter_cons, if_pos (decide_eq_true c)]
        rfl
      obtain ⟨i1, i2⟩ := insR_ok A2 fun m => n (List.mem_cons_of_mem _ m)
      rw [e]
      refine ⟨List.pairwise_cons.mpr ⟨fun x m => ?_, i1⟩, fun x => ?_⟩
      · rcases (i2 x).mp m with e | m
        · rw [e]; exact c
        · exact A1 x m
      · rw [List.mem_cons, i2, List.mem_cons]
        grind
    · have ha : h < a := by
        have : a ≠ h := fun e => n (by rw [e]; exact List.mem_cons_self)
        grind
      have e : insR h (a :: r) = h :: a :: r := by
        unfold insR
        rw [List.filter_eq_nil_iff.mpr fun x m z => ?_]
        · rfl
        · have z := of_decide_eq_true z
          rcases List.mem_cons.mp m with e | m
          · rw [e] at z; exact c z
          · have := A1 x m
            grind
      rw [e]
      refine ⟨List.pairwise_cons.mpr ⟨fun x m => ?_, A⟩, fun x => by rw [List.mem_cons]⟩
      rcases List.mem_cons.mp m with e | m
      · rw [e]; exact ha
      · have := A1 x m
        grind
theorem asc_rat_len {T hs : List Rat} (A : T.Pairwise (· < ·)) (m : ∀ t ∈ T, t ∈ hs) : T.length ≤ hs.length := by
  induction T generalizing hs with
  | nil => exact Nat.zero_le _
  | cons a r ih =>
    obtain ⟨A1, A2⟩ := List.pairwise_cons.mp A
    have ma := m a List.mem_cons_self
    have := ih (hs := hs.erase a) A2 fun t mt => (List.mem_erase_of_ne (fun e => by have := A1 t mt; rw [e] at this; grind)).mpr (m t (List.mem_cons_of_mem _ mt))
    rw [List.length_erase_of_mem ma] at this
    have : 0 < hs.length := List.length_pos_of_mem ma
    show r.length + 1 ≤ _
    omega
theorem exists_asc : ∀ hs : List Rat, ∃ T : List Rat, T.Pairwise (· < ·) ∧ ∀ x, x ∈ T ↔ x ∈ hs
  | [] => ⟨[], List.Pairwise.nil, fun x => Iff.rfl⟩
  | a :: r => by
    obtain ⟨T, A, m⟩ := exists_asc r
    by_cases c : a ∈ T
    · exact ⟨T, A, fun x => by rw [m, List.mem_cons]; exact ⟨.inr, fun z => z.elim (fun e => by rw [e]; exact (m a).mp c) id⟩⟩
    · obtain ⟨i1, i2⟩ := insR_ok A c
      exact ⟨_, i1, fun x => by rw [i2, m, List.mem_cons]⟩
/-! ### gaps -/
/-- gs: one between each of hs and the next one -/
structure Gaps (hs gs : List Rat) : Prop where
  len : gs.length = hs.length
  up : ∀ (i : Nat) (h g : Rat), hs[i]? = some h → gs[i]? = some g → h < g ∧ ∀ x ∈ hs, h < x → g < x
theorem gap_val {rs : List Rw} {hs gs : List Rat} (ok : RowsOk rs) (E : Ends rs hs) (G : Gaps hs gs) {i : Nat} {h g : Rat} (eh : hs[i]? = some h) (eg : gs[i]? = some g) : (V3 rs g).2.1 = (V3 rs h).2.2 := by
  obtain ⟨l, u⟩ := G.up i h g eh eg
  have c : Crit hs (V3 rs) := crit_rows fun r m => ⟨ok r m, (E.mem _).mpr ⟨r, m, .inl rfl⟩, (E.mem _).mpr ⟨r, m, .inr rfl⟩⟩
  have ng : g ∉ hs := fun m => by
    have := u g m l
    grind
  rw [← (c.off g ng).1]
  exact (c.gap h g l fun x m ⟨a, b⟩ => by
    have := u x m a
    grind).symm
/-! ### without idle entries -/
theorem inF_snoc {acc : Int} {e : E3} : ∀ {s : List E3}, inF acc (s ++ [e]) = inF acc s ++ (if e.2.1 = endE acc s ∧ e.2.2 = endE acc s then [] else [e])
  | [] => by
    obtain ⟨k, a, b⟩ := e
    show inF acc [(k, a, b)] = [] ++ if a = acc ∧ b = acc then [] else [(k, a, b)]
    unfold inF
    split <;> rfl
  | (k, a, b) :: r => by
    show inF acc ((k, a, b) :: (r ++ [e])) = inF acc ((k, a, b) :: r) ++ if e.2.1 = endE b r ∧ e.2.2 = endE b r then [] else [e]
    rw [inF, inF]
    split
    · next c =>
      rw [inF_snoc, ← c.2]
    · rw [inF_snoc]
      rfl
theorem endE_snoc {acc : Int} {e : E3} : ∀ {s : List E3}, endE acc (s ++ [e]) = e.2.2
  | [] => rfl
  | (k, a, b) :: r => endE_snoc (s := r)
/-- what is ahead of each entry -/
def behL (s : List E3) : List Int := 0 :: s.dropLast.map (·.2.2)
theorem ahead_zip : ∀ (acc : Int) (s : List E3), aheadE acc s = s.zip (acc :: s.dropLast.map (·.2.2))
  | _, [] => rfl
  | acc, [(k, a, b)] => rfl
  | acc, (k, a, b) :: e :: r => by
    show ((k, a, b), acc) :: aheadE b (e :: r) = ((k, a, b), acc) :: (e :: r).zip (b :: (e :: r).dropLast.map (·.2.2))
    rw [ahead_zip b (e :: r)]
theorem aheadE_len {acc : Int} : ∀ s : List E3, (aheadE acc s).length = s.length
  | [] => rfl
  | (k, a, b) :: r => congrArg (· + 1) (aheadE_len r)
def aeD (e : E3 × Int) : PyData := .tuple [entD e.1, .int e.2]
theorem zip_ahead_D (s : List E3) : zipD (s.map entD) ((behL s).map .int) = (aheadE 0 s).map aeD := by
  rw [ahead_zip]
  unfold zipD behL
  rw [List.zipWith_map, ← List.map_uncurry_zip_eq_zipWith]
  exact List.map_congr_left fun x _ => rfl
/-! ### one stretch -/
def strO (ls hs : List (Rat × Int)) : PyData := match ls, hs with
  | [(lo, n)], [(hi, _)] => if n = 1 ∨ n = -1 then .tuple [.int n, rD lo, rD hi] else .none
  | _, _ => .none
theorem any_rD {T : List Rat} {h : Rat} : ((T.map rD).any fun z => PyData.eqv z (rD h)) = decide (h ∈ T) := by
  rw [Bool.eq_iff_iff, decide_eq_true_iff, List.any_eq_true]
  refine ⟨fun ⟨z, mz, e⟩ => ?_, fun mm => ⟨_, List.mem_map_of_mem mm, rD_iff.mpr rfl⟩⟩
  obtain ⟨s, ms, rfl⟩ := List.mem_map.mp mz
  rw [← rD_iff.mp e]
  exact ms
theorem lay_rD (h : Rat) : (rD h).canLay0 = true ∧ (rD h).depth ≤ 10 := ⟨rfl, Nat.le_of_ble_eq_true rfl⟩
theorem lay_ent (e : E3) : (entD e).canLay0 = true ∧ (entD e).depth ≤ 10 := ⟨rfl, Nat.le_of_ble_eq_true rfl⟩
theorem take_snoc {α : Type} {l : List α} {i : Nat} {x : α} (h : l[i]? = some x) : l.take (i + 1) = l.take i ++ [x] := by
  rw [List.take_add_one, h]
  rfl
theorem V3_at (rs : List Rw) (h : Rat) : ((rs.filter fun r => !decide (h < r.lo) && !decide (r.hi < h)).map (·.n)).sum = (V3 rs h).2.1 := by
  induction rs with
  | nil => rfl
  | cons r rs ih =>
    rw [V3_cons, List.filter_cons]
    show _ = (has3 r h).2.1 + (V3 rs h).2.1
    rw [← ih]
    simp only [has3]
    by_cases c : r.lo ≤ h ∧ h ≤ r.hi
    · have e1 : ¬ h < r.lo := by grind
      have e2 : ¬ r.hi < h := by grind
      simp [c, e1, e2]
    · have : ¬ (!decide (h < r.lo) && !decide (r.hi < h)) = true := fun z => c (by
        simp at z
        grind)
      rw [if_neg this, if_neg c, Int.zero_add]
theorem ine_t {a b : Int} (e : (!PyData.eqv (.int a) (.int b)) = true) : a ≠ b := by
  have e : (!decide (a = b)) = true := e
  simpa using e
theorem ine_f {a b : Int} (e : (!PyData.eqv (.int a) (.int b)) = false) : a = b := by
  have e : (!decide (a = b)) = false := e
  simpa using e
theorem not_dec {α : Type} [DecidableEq α] {a b : α} : (!decide (a = b)) = decide (a ≠ b) := by
  by_cases h : a = b <;> simp [h]
/-- a comprehension, item by item, each with what is wanted of it -/
theorem v_mapI {K : PySem.W.Frag} {F : Fx} {δ : Se} {PD : PyData → Prop} {g : TG} {vs : List Nat} {wi : TI} {te : TE} {G : (List PyData → Prop) → Prop} (w : WiD K F δ wi G) (gw : GW g vs) (Q : Nat → PyData → Prop) (h : G fun ds => ds.length ≤ 1000000 ∧
      (∀ (i : Nat) (x : PyData), ds[i]? = some x → GV K F (wipeS δ vs) g x fun δ2 => EV K F δ2 te fun y => Q i y) ∧ ∀ ys : List PyData, ys.length = ds.length → (∀ (i : Nat) (y : PyData), ys[i]? = some y → Q i y) → PD (.list ys)) : EV K F δ (tLc wi g tYes te vs) PD := by
  refine v_lc w gw (w.mono _ _ (fun ds z => ?_) h)
  obtain ⟨hl, he, hp⟩ := z
  refine ⟨fun k acc => acc.length = k ∧ ∀ (i : Nat) (y : PyData), acc[i]? = some y → Q i y, ⟨rfl, fun i y e => by cases e⟩, fun k x acc hx I => ?_, fun acc I => hp acc I.1 I.2⟩
  obtain ⟨lM, hM⟩ := I
  have hk := (List.getElem?_eq_some_iff.mp hx).1
  refine fun O H σ v S' t R q => he k x hx O H σ v S' t R fun σ' δ' S2 n => q σ' δ' S2 (b_yes ⟨fun _ => n.mono fun y qm => ⟨by omega, by rw [List.length_append, lM]; rfl, fun i y' e => ?_⟩, fun z => Bool.noConfusion z⟩)
  by_cases c : i < acc.length
  · rw [List.getElem?_append_left c] at e
    exact hM i y' e
  · rw [List.getElem?_append_right (by omega)] at e
    have : i - acc.length = 0 := by
      by_cases z : i - acc.length = 0
      · exact z
      · rw [List.getElem?_eq_none (by show 1 ≤ _; omega)] at e
        cases e
    rw [this] at e
    cases e
    have : i = k := by omega
    rw [this]
    exact qm
theorem list_choose {α : Type} {f : α → PyData} : ∀ {ys : List PyData} {R : Nat → α → Prop}, (∀ (i : Nat) (y : PyData), ys[i]? = some y → ∃ g, y = f g ∧ R i g) → ∃ gs : List α, ys = gs.map f ∧ ∀ (i : Nat) (g : α), gs[i]? = some g → R i g
  | [], _, _ => ⟨[], rfl, fun i g e => by cases e⟩
  | y :: r, R, h => by
    obtain ⟨g, e, q⟩ := h 0 y rfl
    obtain ⟨gs, e2, q2⟩ := list_choose (ys := r) (R := fun i g => R (i + 1) g) fun i y e => h (i + 1) y e
    refine ⟨g :: gs, by rw [e, e2]; rfl, fun i g' e' => ?_⟩
    cases i with
    | zero => cases e'; exact q
    | succ i => exact q2 i g' e'
/-! ### promises -/
def RowsK (i : Nat) (rs : List Rw) : Prop := ∀ r ∈ rs, Rk i r.lo ∧ Rk i r.hi
def gStepsL (ds : List PyData) (P : PyData → Prop) : Prop := ∃ s : List E3, ds = [.list (s.map entD)] ∧ s.length ≤ 10000 ∧ P (.tuple ((inF 0 s).map entD))
/-- steps of rows: what is wanted of them -/
structure StepsOf (rs : List Rw) (s : List E3) : Prop where
  t : Tells s (V3 rs)
  l : s.length ≤ 2 * rs.length
  m : ∀ e ∈ s, ∃ r ∈ rs, e.1 = r.lo ∨ e.1 = r.hi
  v : ∀ e ∈ s, e.2 = (V3 rs e.1).2
def gTopsE (ds : List PyData) (P : PyData → Prop) : Prop := ∃ s : List E3, ds = [.tuple (s.map entD)] ∧ s.length ≤ 10000 ∧ P (.list ((topsE s).map p2D))
def gStepSum (ds : List PyData) (P : PyData → Prop) : Prop := ∃ s : List E3, ds = [.tuple (s.map entD)] ∧ s.length ≤ 10000 ∧ P (.int (stepSum s))
/-- drawn rows -/
structure DrR (m : Nat) (rs : List Rw) : Prop where
  ok : RowsOk rs
  l : rs.length ≤ m
  k : RowsK 31 rs
  n : ∀ r ∈ rs, r.n.natAbs ≤ 3
def gDrawStr (ds : List PyData) (P : PyData → Prop) : Prop := ∃ n : Nat, ds = [.int (n : Nat)] ∧ n ≤ 100 ∧ ∀ rs : List Rw, DrR n rs → P (.list (rs.map rwD))
end Pg
/-! Pg54: two told lists within a list, changed behind. -/
namespace Pg
open PySem PySem.Spec PyProof.Rows L2
section
variable {K : PySem.W.Frag} {F : Fx} {O : Ow} {H : Hp} {σ : L2.St} {δ : Se} {P : Po} {i : Nat}
end
/-! ### what is shown -/
theorem Rk.s500 {i : Nat} {h : Rat} (r : Rk i h) (l : i ≤ 140 := by decide) : h.num.natAbs < 10 ^ 500 ∧ ((h.den : Nat) : Int).natAbs < 10 ^ 500 := ⟨sm_500 (abs_up r.n l), sm_500 (by rw [Int.natAbs_natCast]; exact Nat.lt_of_lt_of_le r.d (Nat.pow_le_pow_right (by decide) l))⟩
end Pg
/-! Pg61: objects made: fields set in __init__, the promise of an __init__, calls of classes. -/
namespace Pg
open PySem PySem.Spec PyProof.Rows L2
section
variable {av : Addr → Prop} {K : PySem.W.Frag} {H : Hp}
end
section
variable {K : PySem.W.Frag} {F : Fx} {O : Ow} {H : Hp} {σ : L2.St} {δ : Se} {i : Nat} {R : Po} {te : TE} {f : Str} {C : Addr}
end
end Pg
/-! Pg62: an own class called. -/
namespace Pg
open PySem PySem.Spec PyProof.Rows L2
section
variable {X : Cx} {k : Nat} {C : Addr} {x : Str} {ps : List Str} {sp : Sp} {p pos : Pos} {e : Expr} {es : List Expr} {t : TA}
end
section
variable {K : PySem.W.Frag} {F : Fx} {δ : Se} {P : PyData → Prop} {C : Addr} {t : TA} {G : List PyData → (List (PyData × PyData) → Prop) → Prop}
end
end Pg
/-! Pg63: operators by own methods, both sides of one class. -/
namespace Pg
open PySem PySem.Spec PyProof.Rows L2
section
variable {X : Cx} {k : Nat} {C : Addr} {ps : List Str} {sp : Sp}
end
section
variable {K : PySem.W.Frag} {F : Fx} {C : Addr} {G : List PyData → (PyData → Prop) → Prop}
end
end Pg
/-! Pg64: an object times a number, a number times an object. -/
namespace Pg
open PySem PySem.Spec PyProof.Rows L2
section
variable {X : Cx} {k : Nat} {C : Addr} {ps : List Str} {sp : Sp}
end
section
variable {K : PySem.W.Frag} {F : Fx} {C : Addr} {G : List PyData → (PyData → Prop) → Prop}
end
end Pg
/-! Pg65: isinstance against an own class. -/
namespace Pg
open PySem PySem.Spec PyProof.Rows L2
section
variable {K : PySem.W.Frag} {F : Fx} {δ : Se} {te : TE} {P : PyData → Prop} {C : Addr}
end
end Pg
namespace Pg
open PySem PySem.Spec PyProof.Rows L2
section
variable {K : PySem.W.Frag} {mg : Str → Option Value} {x : Str} {C : Addr}
end
end Pg
/-! Pg66: dicts with tuples as keys compared; dict(pairs) of such keys. -/
namespace Pg
open PySem PySem.Spec PyProof.Rows L2
section
variable {prog : Program} {w : World} {K : Type} [DecidableEq K] {knd : HeapKind prog w K} {A : Around} {E : Value → Shared → Prop} {s : Shared}
end
section
variable {X : Cx} {pins : List (Addr × Obj)} {σ : L2.St} {H : Hp} {s : Shared} {av bv : Addr → Prop}
end
section
variable {K : PySem.W.Frag} {F : Fx} {neg : Bool}
end
/-! ### dict(pairs) -/
section
variable {X : Cx} {pins : List (Addr × Obj)} {σ : L2.St} {H : Hp} {s : Shared} {av : Addr → Prop}
end
section
variable {K : PySem.W.Frag} {F : Fx} {δ : Se}
end
/-! ### sum(d.values()) -/
section
variable {X : Cx} {e : Expr} {te : TE} {p apos cpos pos : Pos}
end
section
variable {K : PySem.W.Frag} {F : Fx} {δ : Se} {te : TE} {P : PyData → Prop}
end
end Pg
/-! Pg67: heaps in plain Lean: rows of plates and weights, in their form; what they weigh. -/
namespace Pg
open PySem PySem.Spec PyProof.Rows L2
/-- one plate stands plt of another one -/
def plt : List Pt → List Pt → Bool
  | [], [] => false
  | [], _ :: _ => true
  | _ :: _, [] => false
  | p :: r, q :: s => if p = q then plt r s else decide (lt p q)
theorem plt_ir : ∀ A : List Pt, plt A A = false
  | [] => rfl
  | p :: r => by
    show (if p = p then plt r r else _) = false
    rw [if_pos rfl]
    exact plt_ir r
theorem plt_trans : ∀ {A B C : List Pt}, (∀ s ∈ A, 0 < s.w) → (∀ s ∈ B, 0 < s.w) → (∀ s ∈ C, 0 < s.w) → plt A B = true → plt B C = true → plt A C = true
  | [], [], _, _, _, _, h, _ => by cases h
  | [], _ :: _, [], _, _, _, _, h => by cases h
  | [], _ :: _, _ :: _, _, _, _, _, _ => rfl
  | _ :: _, [], _, _, _, _, h, _ => by cases h
  | _ :: _, _ :: _, [], _, _, _, _, h => by cases h
  | p :: r, q :: s, x :: t, wA, wB, wC, h1, h2 => by
    have h1 : (if p = q then plt r s else decide (lt p q)) = true := h1
    have h2 : (if q = x then plt s t else decide (lt q x)) = true := h2
    show (if p = x then plt r t else decide (lt p x)) = true
    by_cases e1 : p = q
    · rw [if_pos e1] at h1
      by_cases e2 : q = x
      · rw [if_pos e2] at h2
        rw [if_pos (e1.trans e2)]
        exact plt_trans (fun s m => wA s (List.mem_cons_of_mem _ m)) (fun s m => wB s (List.mem_cons_of_mem _ m)) (fun s m => wC s (List.mem_cons_of_mem _ m)) h1 h2
      · rw [if_neg e2] at h2
        rw [e1, if_neg e2]
        exact h2
    · rw [if_neg e1] at h1
      have l1 := of_decide_eq_true h1
      by_cases e2 : q = x
      · rw [← e2, if_neg e1]
        exact h1
      · rw [if_neg e2] at h2
        have l3 := lt_trans (wA p List.mem_cons_self) (wB q List.mem_cons_self) (wC x List.mem_cons_self) l1 (of_decide_eq_true h2)
        have ne : p ≠ x := fun e => by
          rw [e] at l3
          exact lt_ir l3
        rw [if_neg ne]
        exact decide_eq_true l3
theorem plt_no {A B : List Pt} (wA : ∀ s ∈ A, 0 < s.w) (wB : ∀ s ∈ B, 0 < s.w) (h : plt A B = true) : plt B A = false := by
  cases e : plt B A with
  | false => rfl
  | true =>
    have := plt_trans wA wB wA h e
    rw [plt_ir] at this
    cases this
theorem plt_ne {A B : List Pt} (h : plt A B = true) : A ≠ B := fun e => by
  rw [e, plt_ir] at h
  cases h

/-- a plate with its weight -/
abbrev HR := List Pt × Int
/-- what all rows of a plate weigh together -/
def wt : List HR → List Pt → Int
  | [], _ => 0
  | r :: rs, H => (if r.1 = H then r.2 else 0) + wt rs H
theorem wt_cons (r : HR) (rs : List HR) (H : List Pt) : wt (r :: rs) H = (if r.1 = H then r.2 else 0) + wt rs H := rfl
theorem wt_none : ∀ {rs : List HR} {H : List Pt}, H ∉ rs.map (·.1) → wt rs H = 0
  | [], H, _ => rfl
  | r :: rs, H, n => by
    rw [List.map_cons, List.mem_cons] at n
    rw [wt_cons, if_neg fun e => n (.inl e.symm), wt_none fun m => n (.inr m)]
    rfl
/-- rows with unlike plates -/
def Nd (rs : List HR) : Prop := (rs.map (·.1)).Nodup
theorem Nd.wt : ∀ {rs : List HR}, Nd rs → ∀ r ∈ rs, wt rs r.1 = r.2
  | [], _, r, m => by cases m
  | q :: rs, n, r, m => by
    have n : ((q :: rs).map (·.1)).Nodup := n
    rw [List.map_cons, List.nodup_cons] at n
    rw [wt_cons]
    rcases List.mem_cons.mp m with e | m
    · rw [e, if_pos rfl, wt_none n.1]
      omega
    · have ne : q.1 ≠ r.1 := fun e => n.1 (by
        rw [e]
        exact List.mem_map.mpr ⟨r, m, rfl⟩)
      have ih : Pg.wt rs r.1 = r.2 := Nd.wt (rs := rs) n.2 r m
      rw [if_neg ne, ih]
      omega
structure Canon (rs : List HR) : Prop where
  asc : rs.Pairwise fun a b => plt a.1 b.1 = true
  nz : ∀ r ∈ rs, r.2 ≠ 0
theorem Canon.nd {rs : List HR} (c : Canon rs) : Nd rs := by
  unfold Nd
  rw [List.nodup_iff_pairwise_ne, List.pairwise_map]
  exact c.asc.imp fun h => plt_ne h
theorem Canon.tail {r : HR} {rs : List HR} (c : Canon (r :: rs)) : Canon rs := ⟨(List.pairwise_cons.mp c.asc).2, fun q m => c.nz q (List.mem_cons_of_mem _ m)⟩
theorem nd_mem {rs : List HR} (c : Nd rs) (nz : ∀ r ∈ rs, r.2 ≠ 0) {H : List Pt} : H ∈ rs.map (·.1) ↔ wt rs H ≠ 0 := by
  constructor
  · intro m
    obtain ⟨r, mr, e⟩ := List.mem_map.mp m
    rw [← e, c.wt r mr]
    exact nz r mr
  · intro h
    exact Decidable.byContradiction fun n => h (wt_none n)
/-- all places in their form -/
def FR (rs : List HR) : Prop := ∀ r ∈ rs, ∀ s ∈ r.1, FP s
theorem canon_uniq : ∀ {rs ss : List HR}, Canon rs → Canon ss → FR rs → FR ss → (∀ H, wt rs H = wt ss H) → rs = ss
  | [], [], _, _, _, _, _ => rfl
  | [], b :: ss, _, c, _, _, h => by
    have h1 := h b.1
    rw [c.nd.wt b List.mem_cons_self] at h1
    exact (c.nz b List.mem_cons_self h1.symm).elim
  | a :: rs, [], c, _, _, _, h => by
    have h1 := h a.1
    rw [c.nd.wt a List.mem_cons_self] at h1
    exact (c.nz a List.mem_cons_self h1).elim
  | a :: rs, b :: ss, c, d, f, g, h => by
    have c1 := List.pairwise_cons.mp c.asc
    have d1 := List.pairwise_cons.mp d.asc
    have wa : ∀ s ∈ a.1, 0 < s.w := fun s m => (f a List.mem_cons_self s m).pos
    have wb : ∀ s ∈ b.1, 0 < s.w := fun s m => (g b List.mem_cons_self s m).pos
    have e : a.1 = b.1 := by
      have m1 : a.1 ∈ (b :: ss).map (·.1) := (nd_mem d.nd d.nz).mpr (by
        rw [← h, c.nd.wt a List.mem_cons_self]
        exact c.nz a List.mem_cons_self)
      have m2 : b.1 ∈ (a :: rs).map (·.1) := (nd_mem c.nd c.nz).mpr (by
        rw [h, d.nd.wt b List.mem_cons_self]
        exact d.nz b List.mem_cons_self)
      rw [List.map_cons, List.mem_cons] at m1 m2
      rcases m1 with z | z
      · exact z
      · rcases m2 with y | y
        · exact y.symm
        · obtain ⟨q, mq, eq⟩ := List.mem_map.mp z
          obtain ⟨p, mp, ep⟩ := List.mem_map.mp y
          have h1 := d1.1 q mq
          have h2 := c1.1 p mp
          rw [eq] at h1
          rw [ep] at h2
          rw [plt_no wb wa h1] at h2
          cases h2
    have e2 : a.2 = b.2 := by
      have h1 := h a.1
      rw [c.nd.wt a List.mem_cons_self, e, d.nd.wt b List.mem_cons_self] at h1
      exact h1
    have ab : a = b := Prod.ext e e2
    subst ab
    rw [canon_uniq c.tail d.tail (fun r m => f r (List.mem_cons_of_mem _ m)) (fun r m => g r (List.mem_cons_of_mem _ m)) fun H => ?_]
    have h1 := h H
    rw [wt_cons, wt_cons] at h1
    omega
/-- ss is the form of the heap of rows rs -/
structure HeapOf (rs ss : List HR) : Prop where
  can : Canon ss
  eq : ∀ H, wt ss H = wt rs H
theorem HeapOf.sub {rs ss : List HR} (h : HeapOf rs ss) : ∀ r ∈ ss, ∃ q ∈ rs, q.1 = r.1 := fun r m => by
  have h1 := h.eq r.1
  rw [h.can.nd.wt r m] at h1
  have m2 : r.1 ∈ rs.map (·.1) := Decidable.byContradiction fun n => h.can.nz r m (h1.trans (wt_none n))
  obtain ⟨q, mq, e⟩ := List.mem_map.mp m2
  exact ⟨q, mq, e⟩
theorem HeapOf.all {rs ss : List HR} (h : HeapOf rs ss) {Q : List Pt → Prop} (q : ∀ r ∈ rs, Q r.1) : ∀ r ∈ ss, Q r.1 := fun r m => by
  obtain ⟨p, mp, e⟩ := h.sub r m
  rw [← e]
  exact q p mp
theorem HeapOf.fr {rs ss : List HR} (h : HeapOf rs ss) (f : FR rs) : FR ss := h.all (Q := fun H => ∀ s ∈ H, FP s) f
theorem nodup_len {α : Type} [DecidableEq α] : ∀ {A B : List α}, A.Nodup → (∀ a ∈ A, a ∈ B) → A.length ≤ B.length
  | [], B, _, _ => Nat.zero_le _
  | a :: r, B, n, h => by
    rw [List.nodup_cons] at n
    have ma := h a List.mem_cons_self
    have ih := nodup_len (B := B.erase a) n.2 fun x m => (List.mem_erase_of_ne (fun e => n.1 (by rw [← e]; exact m))).mpr (h x (List.mem_cons_of_mem _ m))
    rw [List.length_erase_of_mem ma] at ih
    have : 0 < B.length := List.length_pos_of_mem ma
    rw [List.length_cons]
    omega
theorem HeapOf.len {rs ss : List HR} (h : HeapOf rs ss) : ss.length ≤ rs.length := by
  have := nodup_len (A := ss.map (·.1)) (B := rs.map (·.1)) (show (ss.map (·.1)).Nodup from h.can.nd) fun a m => by
    obtain ⟨r, mr, e⟩ := List.mem_map.mp m
    obtain ⟨q, mq, e2⟩ := h.sub r mr
    rw [← e, ← e2]
    exact List.mem_map.mpr ⟨q, mq, rfl⟩
  rwa [List.length_map, List.length_map] at this
theorem HeapOf.uniq {rs rs' ss ss' : List HR} (h : HeapOf rs ss) (h' : HeapOf rs' ss') (f : FR rs) (f' : FR rs') (e : ∀ H, wt rs H = wt rs' H) : ss = ss' :=
  canon_uniq h.can h'.can (h.fr f) (h'.fr f') fun H => by rw [h.eq, h'.eq, e]
/-! ### sums over rows hang on the weights alone -/
def wsum (f : List Pt → Int) : List HR → Int
  | [] => 0
  | r :: rs => r.2 * f r.1 + wsum f rs
theorem wsum_append (f : List Pt → Int) : ∀ rs ss : List HR, wsum f (rs ++ ss) = wsum f rs + wsum f ss
  | [], ss => by
    show wsum f ss = 0 + wsum f ss
    omega
  | r :: rs, ss => by
    show r.2 * f r.1 + wsum f (rs ++ ss) = r.2 * f r.1 + wsum f rs + wsum f ss
    rw [wsum_append]
    omega
/-- over keys -/
def ksum (g : List Pt → Int) : List (List Pt) → Int
  | [] => 0
  | H :: K => g H + ksum g K
theorem ksum_add (g h : List Pt → Int) : ∀ K, ksum (fun H => g H + h H) K = ksum g K + ksum h K
  | [] => rfl
  | H :: K => by
    show g H + h H + ksum _ K = g H + ksum g K + (h H + ksum h K)
    rw [ksum_add]
    omega
theorem ksum_zero {g : List Pt → Int} : ∀ {K : List (List Pt)}, (∀ H ∈ K, g H = 0) → ksum g K = 0
  | [], _ => rfl
  | H :: K, h => by
    show g H + ksum g K = 0
    rw [h H List.mem_cons_self, ksum_zero fun x m => h x (List.mem_cons_of_mem _ m)]
    rfl
theorem ksum_congr {g h : List Pt → Int} : ∀ {K : List (List Pt)}, (∀ H ∈ K, g H = h H) → ksum g K = ksum h K
  | [], _ => rfl
  | H :: K, e => by
    show g H + ksum g K = h H + ksum h K
    rw [e H List.mem_cons_self, ksum_congr fun x m => e x (List.mem_cons_of_mem _ m)]
theorem ksum_one (A : List Pt) (z : Int) (f : List Pt → Int) : ∀ {K : List (List Pt)}, K.Nodup → A ∈ K → ksum (fun H => (if A = H then z else 0) * f H) K = z * f A
  | [], _, m => by cases m
  | H :: K, n, m => by
    rw [List.nodup_cons] at n
    show (if A = H then z else 0) * f H + ksum _ K = z * f A
    by_cases e : A = H
    · rw [if_pos e, ksum_zero fun x mx => by
        rw [if_neg fun y => n.1 (by rw [← e, y]; exact mx)]
        exact Int.zero_mul _, e]
      omega
    · rcases List.mem_cons.mp m with y | y
      · exact (e y).elim
      · rw [if_neg e, ksum_one A z f n.2 y]
        rw [Int.zero_mul]
        omega
theorem wsum_keys (f : List Pt → Int) : ∀ {rs : List HR} {K : List (List Pt)}, K.Nodup → (∀ r ∈ rs, r.1 ∈ K) → wsum f rs = ksum (fun H => wt rs H * f H) K
  | [], K, n, h => (ksum_zero fun H m => Int.zero_mul _).symm
  | r :: rs, K, n, h => by
    show r.2 * f r.1 + wsum f rs = _
    rw [wsum_keys f n fun q m => h q (List.mem_cons_of_mem _ m)]
    have e : ksum (fun H => wt (r :: rs) H * f H) K = ksum (fun H => (if r.1 = H then r.2 else 0) * f H + wt rs H * f H) K := ksum_congr fun H m => by
      rw [wt_cons, Int.add_mul]
    rw [e, ksum_add, ksum_one r.1 r.2 f n (h r List.mem_cons_self)]
theorem exists_keys : ∀ L : List (List Pt), ∃ K : List (List Pt), K.Nodup ∧ ∀ H ∈ L, H ∈ K
  | [] => ⟨[], .nil, fun H m => by cases m⟩
  | A :: L => by
    obtain ⟨K, n, h⟩ := exists_keys L
    by_cases z : A ∈ K
    · exact ⟨K, n, fun H m => by
        rcases List.mem_cons.mp m with e | m
        · rw [e]
          exact z
        · exact h H m⟩
    · exact ⟨A :: K, List.nodup_cons.mpr ⟨z, n⟩, fun H m => by
        rcases List.mem_cons.mp m with e | m
        · rw [e]
          exact List.mem_cons_self
        · exact List.mem_cons_of_mem _ (h H m)⟩
theorem wsum_wt (f : List Pt → Int) {rs ss : List HR} (h : ∀ H, wt rs H = wt ss H) : wsum f rs = wsum f ss := by
  obtain ⟨K, n, hK⟩ := exists_keys (rs.map (·.1) ++ ss.map (·.1))
  rw [wsum_keys f n fun r m => hK _ (List.mem_append_left _ (List.mem_map.mpr ⟨r, m, rfl⟩)), wsum_keys f n fun r m => hK _ (List.mem_append_right _ (List.mem_map.mpr ⟨r, m, rfl⟩))]
  exact ksum_congr fun H m => by rw [h]
theorem HeapOf.wsum {rs ss : List HR} (h : HeapOf rs ss) (f : List Pt → Int) : Pg.wsum f ss = Pg.wsum f rs := wsum_wt f h.eq
theorem wsum_one : ∀ rs : List HR, wsum (fun _ => 1) rs = (rs.map (·.2)).sum
  | [] => rfl
  | r :: rs => by
    show r.2 * 1 + wsum _ rs = _
    rw [wsum_one, List.map_cons, List.sum_cons]
    omega
theorem wsum_filter (p : List Pt → Bool) : ∀ rs : List HR, wsum (fun H => if p H = true then 1 else 0) rs = ((rs.filter fun r => p r.1).map (·.2)).sum
  | [] => rfl
  | r :: rs => by
    show r.2 * _ + wsum _ rs = _
    rw [wsum_filter p rs, List.filter_cons]
    dsimp only
    by_cases e : p r.1 = true
    · rw [if_pos e, if_pos e, List.map_cons, List.sum_cons]
      omega
    · rw [if_neg e, if_neg e]
      omega
/-! ### as data -/
end Pg
set_option exponentiation.threshold 2000
/-! Pg68: the promises of class Heap; enumerate in data mode. -/
namespace Pg
open PySem PySem.Spec PyProof.Rows L2
/-- the pairs of a number and an item -/
def enumD (i : Nat) : List PyData → List PyData
  | [] => []
  | d :: ds => .tuple [.int (i : Nat), d] :: enumD (i + 1) ds
theorem enumD_len : ∀ (ds : List PyData) (i : Nat), (enumD i ds).length = ds.length
  | [], _ => rfl
  | d :: ds, i => congrArg (· + 1) (enumD_len ds (i + 1))
theorem enumD_get : ∀ {ds : List PyData} {i j : Nat} {d : PyData}, ds[j]? = some d → (enumD i ds)[j]? = some (.tuple [.int ((i + j : Nat) : Int), d])
  | [], i, j, d, h => by simp at h
  | x :: ds, i, 0, d, h => by
    have h : some x = some d := by simpa using h
    cases h
    rfl
  | x :: ds, i, j + 1, d, h => by
    have h : ds[j]? = some d := by simpa using h
    have := enumD_get (i := i + 1) h
    show (enumD (i + 1) ds)[j]? = _
    rw [this]
    have e : i + 1 + j = i + (j + 1) := by omega
    rw [e]
section
variable {K : PySem.W.Frag} {F : Fx} {δ : Se}
theorem w_enum {t : TA} : WiD K F δ (iEnum K t) (fun M => EA K F δ t fun ds => ∃ xs, ds = [.list xs] ∧ M (enumD 0 xs)) :=
  ⟨fun M M' m h => h.mono fun d ⟨xs, e, z⟩ => ⟨xs, e, m _ z⟩, fun O H σ M R S h k => h O H σ S _ fun H1 vs ds k1 S1 t1 ⟨xs, e, m⟩ => by
    subst e
    obtain ⟨v, rfl, h1⟩ := dts_one t1
    cases h1 with
    | lst s1 u1 =>
      refine ⟨_, _, rfl, s1.sq, k H1 _ (enumD 0 xs) k1 S1 m fun O2 H2 i st fr => ?_⟩
      have q1 := s1.keep (av' := F.cur O2) (H' := H2) fun c o e => st _ o c e
      have t1 := u1.stp st
      rw [enumD_len]
      refine ⟨fun hi => ?_, fun hi => ⟨_, q1.sq, by rw [t1.length]; omega⟩⟩
      have i1 := List.getElem?_eq_getElem (show i < _ by rw [t1.length]; omega)
      refine ⟨⟨_, _, q1.sq, i1⟩, fun x H3 y => ?_⟩
      obtain ⟨T, x1, rfl, nT, rfl, y2⟩ := y
      obtain ⟨d, e1, t3⟩ := t1.get (y2 _ q1.sq)
      have sm : Same H2 (upd H2 T (.tup [.int (i : Nat), x1])) := same_new nT
      refine ⟨sm, _, enumD_get e1, .tup (.of (fr _ nT) upd_same) (Dts.stp (O := O2) (O1 := O2) (fun b o c h => ⟨c, sm _ _ h⟩) (.cons ?_ (.cons t3 .nil)))⟩
      rw [Nat.zero_add]
      exact .int _⟩
end
/-- plates that heaps have -/
structure PlK (H : List Pt) : Prop where
  h : PlateH H
  p : Pls H
  l : H.length ≤ 1000
theorem PlK.w {H : List Pt} (h : PlK H) : ∀ s ∈ H, 0 < s.w := fun s m => (h.p.gp s m).1.pos
/-! ### promises -/
/-! ### defs with another name besides -/
/-! ### plates in order -/
theorem atI_map {α : Type} {f : α → PyData} {T : List α} {m : Nat} (h : m < T.length) : atI (T.map f) (m : Int) = some (f T[m]) := by
  rw [atI_nat (by rw [List.length_map]; exact h), List.getElem_map]
/-! ### heaps looked into, their methods called -/
section
variable {K : PySem.W.Frag} {F : Fx} {δ : Se} {te : TE} {P : PyData → Prop} {m : Str} {C : Addr}
end
theorem enumD_at {α : Type} {f : α → PyData} {l : List α} {i : Nat} {u : PyData} (h : (enumD 0 (l.map f))[i]? = some u) : ∃ r, l[i]? = some r ∧ u = .tuple [.int (i : Nat), f r] := by
  have li := (List.getElem?_eq_some_iff.mp h).1
  rw [enumD_len, List.length_map] at li
  have e := enumD_get (i := 0) (j := i) (ds := l.map f) (d := f l[i]) (by rw [List.getElem?_map, List.getElem?_eq_getElem li]; rfl)
  rw [h, Nat.zero_add] at e
  exact ⟨l[i], List.getElem?_eq_getElem li, Option.some.inj e⟩
end Pg
/-! Pg93: enumerate over zip of a tuple and a list: zip's own tuple stays handed out. -/
namespace Pg
open PySem PySem.Spec PyProof.Rows L2
abbrev ZpF (h : Heap) (z TI TO : Addr) (f0 : Value) (b : Bool) : Prop :=
  h.get? z = some { cls := .type "zip", dict := none, data := .fields #[f0, .bool b, .bool false, .ref TI, .ref TO], slots := #[] }
def ZOwn (v : Value) : Prop := v = .none ∨ ∃ k : Nat, v = rawInt (k : Nat)
section
variable {P : Program} {w : World} {A : Around} {E : Value → Shared → Prop} {s : Shared} {Z PI' PO j1 j2 r1 r2 : Addr} {S1 S2 : Heap → Nat → Prop} {R1 R2 : Heap → Array Value → Prop} {f0 : Value} {fl : Bool}
theorem alive_of {a : Addr} {Q : Option Obj → Shared → Prop} (h : Q (s.heap.get? a) s) : wpAny (model P w) A (loadIfAlive a) Q E s := fun _ _ _ => h
theorem zfree (o : ZOwn f0) (kz : ZpF s.heap Z PI' PO f0 fl) {Q : Bool → Shared → Prop} (h1 : Q true s) (h2 : ∀ g b', ZpF g Z PI' PO f0 b' → Heap.SameBut Z s.heap g → Q false { s with heap := g }) : wpAny (model P w) A (Builtin.SmallTypes.ownedTupleIsFree (.ref Z)) Q E s := by
  unfold Builtin.SmallTypes.ownedTupleIsFree
  rcases o with rfl | ⟨k, rfl⟩
  · exact wpAny_bind (wpAny_field kz rfl (x := .none) rfl (wpAny_pure h1))
  · refine wpAny_bind (wpAny_field kz rfl (x := rawInt k) rfl ?_)
    show wpAny _ _ (loadIfAlive ((k : Int)).toNat >>= fun _ => _) _ _ _
    refine wpAny_bind (alive_of ?_)
    cases s.heap.get? ((k : Int)).toNat with
    | none =>
      simp only [Option.isNone_none, if_true]
      exact wpAny_pure h1
    | some ob =>
      simp only [Option.isNone_some, Bool.false_eq_true, if_false]
      refine wpAny_bind (wpAny_field kz rfl (x := .bool fl) rfl ?_)
      cases fl with
      | true =>
        rw [if_neg (by decide)]
        exact wpAny_pure (h2 _ true kz ⟨rfl, fun _ _ => rfl⟩)
      | false =>
        rw [if_pos (by decide)]
        refine wpAny_bind (wpAny_setField_rec kz (by simp) fun g z e => ?_)
        exact wpAny_pure (h2 g true z e)
abbrev ZFin (Z PI' PO j1 j2 : Addr) (S1 S2 : Heap → Nat → Prop) (h g : Heap) (n : Nat) (v u : Value) : Prop :=
  (∃ f1 b, ZOwn f1 ∧ ZpF g Z PI' PO f1 b) ∧ (∃ x y, IsPair g PO x y) ∧ S1 g (n + 1) ∧ S2 g (n + 1) ∧ IsPair g h.objs.size v u ∧ g.objs.size = h.objs.size + 1 ∧ But4 Z PO j1 j2 h g
theorem zf_item (U1 : RowIt P w j1 r1 S1 R1) (U2 : RowIt P w j2 r2 S2 R2) (D : ZipApart Z PI' PO j1 j2 r1 r2) {n : Nat} {vs us : Array Value} {v u p q : Value} {Q : Value → Shared → Prop}
    (ow : ZOwn f0) (kz : ZpF s.heap Z PI' PO f0 fl) (ki : IsPair s.heap PI' (.ref j1) (.ref j2)) (ko : IsPair s.heap PO p q) (a1 : S1 s.heap n) (a2 : S2 s.heap n) (b1 : R1 s.heap vs) (b2 : R2 s.heap us) (ev : vs[n]? = some v) (eu : us[n]? = some u)
    (fin : ∀ g, ZFin Z PI' PO j1 j2 S1 S2 s.heap g n v u → Q (.ref s.heap.objs.size) { s with heap := g }) :
    wpAny (model P w) A (Builtin.«zip.__next__» ⟨[.ref Z], []⟩) (fun x t => ∃ y, x = .done (.ret y) ∧ Q y t) E s := by
  show wpAny _ _ (field (.ref Z) 2 >>= fun _ => _) _ _ _
  refine wpAny_bind (wpAny_field kz rfl (x := .bool false) rfl ?_)
  show wpAny _ _ (field (.ref Z) 3 >>= fun _ => _) _ _ _
  refine wpAny_bind (wpAny_field kz rfl (x := .ref PI') rfl (wpAny_bind (wpAny_seqItems ki rfl ?_)))
  show wpAny _ _ (Builtin.SmallTypes.ownedTupleIsFree (.ref Z) >>= fun _ => _) _ _ _
  refine wpAny_bind (zfree ow kz ?_ fun g b' z0 e0 => ?_)
  · simp only [if_true]
    refine wpAny_bind (wpAny_rule (wpAny_bind (wpAny_field kz rfl (x := .ref PO) rfl (wpAny_bind (wpAny_setField_rec kz (by simp) fun g1 z1 e1 => ?_)))))
    replace z1 : ZpF g1 Z PI' PO .ellipsis fl := z1
    refine wpAny_bind ?_; simp only [List.forIn_cons, List.forIn_nil, List.zipIdx_cons, List.zipIdx_nil]
    -- the first row
    refine wpAny_bind (wpAny_bind (wpAny_onRaise ?_)); show wpAny _ _ (Builtin.SmallTypes.nextOf (.ref j1) >>= fun _ => _) _ _ _
    refine wpAny_bind (U1.step (U1.st a1 fun o => e1.extBut _ _ D.i1z) (U1.ro b1 fun o => e1.extBut _ _ D.l1z) ev fun g2 s2 e2 => wpAny_pure ?_)
    have o2 : IsPair g2 PO p q := e2.extBut _ _ D.TOi1 (e1.extBut _ _ D.TOz ko)
    refine wpAny_bind (wpAny_seqItems o2 rfl (wpAny_bind (wpAny_updateSeq_pair o2 fun g3 o3 e3 => ?_)))
    replace o3 : IsPair g3 PO v q := o3
    refine wpAny_bind (wpAny_letGo <| wpAny_pure ?_)
    -- the other row
    refine wpAny_bind (wpAny_bind (wpAny_onRaise ?_)); show wpAny _ _ (Builtin.SmallTypes.nextOf (.ref j2) >>= fun _ => _) _ _ _
    have up3 : ∀ c o, c ≠ Z → c ≠ PO → c ≠ j1 → s.heap.get? c = some o → g3.get? c = some o := fun c o n1 n2 n3 h => e3.extBut _ _ n2 (e2.extBut _ _ n3 (e1.extBut _ _ n1 h))
    refine wpAny_bind (U2.step (U2.st a2 fun o => up3 _ o D.i2z D.TOi2.symm D.i12.symm) (U2.ro b2 fun o => up3 _ o D.l2z D.l2TO D.l2i1) eu fun g4 s4 e4 => wpAny_pure ?_)
    have o4 : IsPair g4 PO v q := e4.extBut _ _ D.TOi2 o3
    refine wpAny_bind (wpAny_seqItems o4 rfl (wpAny_bind (wpAny_updateSeq_pair o4 fun g5 o5 e5 => ?_)))
    replace o5 : IsPair g5 PO v u := o5
    refine wpAny_bind (wpAny_letGo <| wpAny_pure <| wpAny_pure ?_)
    refine wpAny_bind (wpAny_seqItems o5 rfl (wpAny_bind (wpAny_newTuple ?_)))
    -- handed out
    have size5 : g5.objs.size = s.heap.objs.size := by rw [e5.1, e4.1, e3.1, e2.1, e1.1]
    have up5 : But4 Z PO j1 j2 s.heap g5 := fun c o n1 n2 n3 n4 h => e5.extBut _ _ n2 (e4.extBut _ _ n4 (up3 c o n1 n2 n3 h))
    have z5 : ZpF g5 Z PI' PO .ellipsis fl := e5.extBut _ _ D.TOz.symm (e4.extBut _ _ D.i2z.symm (e3.extBut _ _ D.TOz.symm (e2.extBut _ _ D.i1z.symm z1)))
    have q1 : S1 g5 (n + 1) := U1.st s2 fun o h => e5.extBut _ _ D.TOi1.symm (e4.extBut _ _ D.i12 (e3.extBut _ _ D.TOi1.symm h))
    have q2 : S2 g5 (n + 1) := U2.st s4 fun o h => e5.extBut _ _ D.TOi2.symm h
    have lz : Z < g5.objs.size := Heap.lt_size z5
    show wpAny _ _ (Builtin.SmallTypes.ownedTupleHandOut (.ref Z) (.ref g5.objs.size) >>= fun _ => _) _ _ _
    refine wpAny_bind ?_; unfold Builtin.SmallTypes.ownedTupleHandOut
    have z6 : ZpF (g5.push { cls := .type "tuple", data := .seq #[v, u] }) Z PI' PO .ellipsis fl := Heap.get?_push_of_some _ z5
    refine wpAny_bind (wpAny_setField_rec z6 (by simp) fun g7 z7 e7 => ?_)
    replace z7 : ZpF g7 Z PI' PO (rawInt g5.objs.size) fl := z7
    refine wpAny_setField_rec z7 (by simp) fun g8 z8 e8 => ?_
    replace z8 : ZpF g8 Z PI' PO (rawInt g5.objs.size) false := z8
    have up8 : ∀ c o, c ≠ Z → g5.get? c = some o → g8.get? c = some o := fun c o n1 h => e8.extBut _ _ n1 (e7.extBut _ _ n1 (Heap.get?_push_of_some _ h))
    have t8 : IsPair g8 g5.objs.size v u := e8.extBut _ _ (Nat.ne_of_gt lz) (e7.extBut _ _ (Nat.ne_of_gt lz) (Heap.get?_push_size _ rfl))
    have size8 : g8.objs.size = g5.objs.size + 1 := by rw [e8.1, e7.1, Heap.size_push]
    refine wpAny_pure ⟨_, rfl, ?_⟩
    show Q (.ref g5.objs.size) _
    rw [size5] at z8 t8 size8 ⊢
    exact fin g8 ⟨⟨_, _, .inr ⟨_, rfl⟩, z8⟩, ⟨_, _, up8 _ _ D.TOz o5⟩, U1.st q1 fun o h => up8 _ o D.i1z h, U2.st q2 fun o h => up8 _ o D.i2z h, t8, size8, fun c o n1 n2 n3 n4 h => up8 c o n1 (up5 c o n1 n2 n3 n4 h)⟩
  · simp only [Bool.false_eq_true, if_false]
    refine wpAny_bind ?_
    simp only [← Array.forIn_toList, List.forIn_cons, List.forIn_nil]
    refine wpAny_bind (wpAny_bind (wpAny_holding ?_)); show wpAny _ _ (Builtin.SmallTypes.nextOf (.ref j1) >>= fun _ => _) _ _ _
    refine wpAny_bind (U1.step (U1.st a1 fun o => e0.extBut _ _ D.i1z) (U1.ro b1 fun o => e0.extBut _ _ D.l1z) ev fun g2 s2 e2 => wpAny_pure (wpAny_pure ?_))
    have up2 : ∀ c o, c ≠ Z → c ≠ j1 → s.heap.get? c = some o → g2.get? c = some o := fun c o n1 n3 h => e2.extBut _ _ n3 (e0.extBut _ _ n1 h)
    refine wpAny_bind (wpAny_bind (wpAny_holding ?_)); show wpAny _ _ (Builtin.SmallTypes.nextOf (.ref j2) >>= fun _ => _) _ _ _
    refine wpAny_bind (U2.step (U2.st a2 fun o => up2 _ o D.i2z D.i12.symm) (U2.ro b2 fun o => up2 _ o D.l2z D.l2i1) eu fun g4 s4 e4 => wpAny_pure (wpAny_pure ?_))
    have size4 : g4.objs.size = s.heap.objs.size := by rw [e4.1, e2.1, e0.1]
    have z4 : ZpF g4 Z PI' PO f0 b' := e4.extBut _ _ D.i2z.symm (e2.extBut _ _ D.i1z.symm z0)
    have o4 : IsPair g4 PO p q := e4.extBut _ _ D.TOi2 (e2.extBut _ _ D.TOi1 (e0.extBut _ _ D.TOz ko))
    refine wpAny_pure (wpAny_bind ?_)
    show wpAny _ _ (newTuple [v, u]) _ _ _
    refine wpAny_newTuple (wpAny_pure ⟨_, rfl, ?_⟩)
    show Q (.ref g4.objs.size) _
    rw [size4]
    refine fin _ ⟨⟨_, _, ow, Heap.get?_push_of_some _ z4⟩, ⟨_, _, Heap.get?_push_of_some _ o4⟩, U1.st s2 fun o h => Heap.get?_push_of_some _ (e4.extBut _ _ D.i12 h), U2.st s4 fun o h => Heap.get?_push_of_some _ h, ?_, by rw [Heap.size_push, size4], fun c o n1 n2 n3 n4 h => Heap.get?_push_of_some _ (e4.extBut _ _ n4 (up2 c o n1 n3 h))⟩
    rw [← size4]
    exact Heap.get?_push_size _ rfl
theorem zf_end (hh : A.handled = none) (U1 : RowIt P w j1 r1 S1 R1) (U2 : RowIt P w j2 r2 S2 R2) (D : ZipApart Z PI' PO j1 j2 r1 r2) {n : Nat} {vs us : Array Value} {p q : Value} {Q : Fin → Shared → Prop}
    (ow : ZOwn f0) (kz : ZpF s.heap Z PI' PO f0 fl) (ki : IsPair s.heap PI' (.ref j1) (.ref j2)) (ko : IsPair s.heap PO p q) (a1 : S1 s.heap n) (a2 : S2 s.heap n) (b1 : R1 s.heap vs) (b2 : R2 s.heap us) (no : vs[n]? = none ∨ us[n]? = none)
    (fin : ∀ g e, But4 Z PO j1 j2 s.heap g → (∃ o, g.get? e = some o ∧ o.cls = .type "StopIteration") → E (.ref e) { s with heap := g }) :
    wpAny (model P w) A (Builtin.«zip.__next__» ⟨[.ref Z], []⟩) Q E s := by
  show wpAny _ _ (field (.ref Z) 2 >>= fun _ => _) _ _ _
  refine wpAny_bind (wpAny_field kz rfl (x := .bool false) rfl ?_)
  show wpAny _ _ (field (.ref Z) 3 >>= fun _ => _) _ _ _
  refine wpAny_bind (wpAny_field kz rfl (x := .ref PI') rfl (wpAny_bind (wpAny_seqItems ki rfl ?_)))
  show wpAny _ _ (Builtin.SmallTypes.ownedTupleIsFree (.ref Z) >>= fun _ => _) _ _ _
  refine wpAny_bind (zfree ow kz ?_ fun g b' z0 e0 => ?_)
  · simp only [if_true]
    refine wpAny_bind (wpAny_rule (wpAny_bind (wpAny_field kz rfl (x := .ref PO) rfl (wpAny_bind (wpAny_setField_rec kz (by simp) fun g1 z1 e1 => ?_)))))
    replace z1 : ZpF g1 Z PI' PO .ellipsis fl := z1
    refine wpAny_bind ?_; simp only [List.forIn_cons, List.forIn_nil, List.zipIdx_cons, List.zipIdx_nil]
    refine wpAny_bind (wpAny_bind (wpAny_onRaise ?_)); show wpAny _ _ (Builtin.SmallTypes.nextOf (.ref j1) >>= fun _ => _) _ _ _
    have k1 := U1.st a1 fun o => e1.extBut _ o D.i1z
    have k2 := U1.ro b1 fun o => e1.extBut _ o D.l1z
    match ev : vs[n]?, no with
    | none, _ =>
      refine wpAny_bind (U1.stop hh k1 k2 ev fun g2 e e2 se => ?_)
      obtain ⟨oe, he, ce⟩ := se
      have z2 : ZpF g2 Z PI' PO .ellipsis fl := e2 _ _ D.i1z.symm z1
      have ne : e ≠ Z := fun x => by subst x; rw [z2] at he; cases he; simp at ce
      exact wpAny_setField_rec z2 (by simp) fun g3 _ e3 => fin g3 e (fun c o n1 _ n3 _ h => e3.extBut _ _ n1 (e2 _ _ n3 (e1.extBut _ _ n1 h))) ⟨oe, e3.extBut _ _ ne he, ce⟩
    | some v, .inr eu =>
      refine wpAny_bind (U1.step k1 k2 ev fun g2 s2 e2 => wpAny_pure ?_)
      have o2 : IsPair g2 PO p q := e2.extBut _ _ D.TOi1 (e1.extBut _ _ D.TOz ko)
      refine wpAny_bind (wpAny_seqItems o2 rfl (wpAny_bind (wpAny_updateSeq_pair o2 fun g3 o3 e3 => ?_)))
      refine wpAny_bind (wpAny_letGo <| wpAny_pure ?_)
      refine wpAny_bind (wpAny_bind (wpAny_onRaise ?_)); show wpAny _ _ (Builtin.SmallTypes.nextOf (.ref j2) >>= fun _ => _) _ _ _
      have up3 : ∀ c o, c ≠ Z → c ≠ PO → c ≠ j1 → s.heap.get? c = some o → g3.get? c = some o := fun c o n1 n2 n3 h => e3.extBut _ _ n2 (e2.extBut _ _ n3 (e1.extBut _ _ n1 h))
      refine wpAny_bind (U2.stop hh (U2.st a2 fun o => up3 _ o D.i2z D.TOi2.symm D.i12.symm) (U2.ro b2 fun o => up3 _ o D.l2z D.l2TO D.l2i1) eu fun g4 e e4 se => ?_)
      obtain ⟨oe, he, ce⟩ := se
      have z4 : ZpF g4 Z PI' PO .ellipsis fl := e4 _ _ D.i2z.symm (e3.extBut _ _ D.TOz.symm (e2.extBut _ _ D.i1z.symm z1))
      have ne : e ≠ Z := fun x => by subst x; rw [z4] at he; cases he; simp at ce
      exact wpAny_setField_rec z4 (by simp) fun g5 _ e5 => fin g5 e (fun c o n1 n2 n3 n4 h => e5.extBut _ _ n1 (e4 _ _ n4 (up3 c o n1 n2 n3 h))) ⟨oe, e5.extBut _ _ ne he, ce⟩
    | some v, .inl no => cases no
  · simp only [Bool.false_eq_true, if_false]
    refine wpAny_bind ?_
    simp only [← Array.forIn_toList, List.forIn_cons, List.forIn_nil]
    refine wpAny_bind (wpAny_bind (wpAny_holding ?_)); show wpAny _ _ (Builtin.SmallTypes.nextOf (.ref j1) >>= fun _ => _) _ _ _
    have k1 := U1.st a1 fun o => e0.extBut _ o D.i1z
    have k2 := U1.ro b1 fun o => e0.extBut _ o D.l1z
    match ev : vs[n]?, no with
    | none, _ =>
      refine wpAny_bind (U1.stop hh k1 k2 ev fun g2 e e2 se => ?_)
      exact fin g2 e (fun c o n1 _ n3 _ h => e2 _ _ n3 (e0.extBut _ _ n1 h)) se
    | some v, .inr eu =>
      refine wpAny_bind (U1.step k1 k2 ev fun g2 s2 e2 => wpAny_pure (wpAny_pure ?_))
      have up2 : ∀ c o, c ≠ Z → c ≠ j1 → s.heap.get? c = some o → g2.get? c = some o := fun c o n1 n3 h => e2.extBut _ _ n3 (e0.extBut _ _ n1 h)
      refine wpAny_bind (wpAny_bind (wpAny_holding ?_)); show wpAny _ _ (Builtin.SmallTypes.nextOf (.ref j2) >>= fun _ => _) _ _ _
      refine wpAny_bind (U2.stop hh (U2.st a2 fun o => up2 _ o D.i2z D.i12.symm) (U2.ro b2 fun o => up2 _ o D.l2z D.l2i1) eu fun g4 e e4 se => ?_)
      exact fin g4 e (fun c o n1 _ n3 n4 h => e4 _ _ n4 (up2 c o n1 n3 h)) se
    | some v, .inl no => cases no
theorem zf_nextOf (U1 : RowIt P w j1 r1 S1 R1) (U2 : RowIt P w j2 r2 S2 R2) (D : ZipApart Z PI' PO j1 j2 r1 r2) {n : Nat} {vs us : Array Value} {v u p q : Value} {Q : Value → Shared → Prop}
    (ow : ZOwn f0) (kz : ZpF s.heap Z PI' PO f0 fl) (ki : IsPair s.heap PI' (.ref j1) (.ref j2)) (ko : IsPair s.heap PO p q) (a1 : S1 s.heap n) (a2 : S2 s.heap n) (b1 : R1 s.heap vs) (b2 : R2 s.heap us) (ev : vs[n]? = some v) (eu : us[n]? = some u)
    (fin : ∀ g, ZFin Z PI' PO j1 j2 S1 S2 s.heap g n v u → Q (.ref s.heap.objs.size) { s with heap := g }) :
    wpAny (model P w) A (Builtin.SmallTypes.nextOf (.ref Z)) Q E s := by
  have ty : s.TypeIs (.ref Z) "zip" := ⟨_, kz, rfl⟩
  unfold Builtin.SmallTypes.nextOf
  refine wpAny_bind (wpAny_callSpecial?_slot (name := Str.ofString "__next__") ty F.slot_zip_next (wpAny_call_entry F.slot_zip_next ty F.entry_zip_next ?_ (F.args_zip_next_1 _)))
  exact zf_item U1 U2 D ow kz ki ko a1 a2 b1 b2 ev eu fun g h => wpAny_pure (fin g h)
theorem zf_nextStop (hh : A.handled = none) (U1 : RowIt P w j1 r1 S1 R1) (U2 : RowIt P w j2 r2 S2 R2) (D : ZipApart Z PI' PO j1 j2 r1 r2) {n : Nat} {vs us : Array Value} {p q : Value} {Q : Value → Shared → Prop}
    (ow : ZOwn f0) (kz : ZpF s.heap Z PI' PO f0 fl) (ki : IsPair s.heap PI' (.ref j1) (.ref j2)) (ko : IsPair s.heap PO p q) (a1 : S1 s.heap n) (a2 : S2 s.heap n) (b1 : R1 s.heap vs) (b2 : R2 s.heap us) (no : vs[n]? = none ∨ us[n]? = none)
    (fin : ∀ g e, But4 Z PO j1 j2 s.heap g → (∃ o, g.get? e = some o ∧ o.cls = .type "StopIteration") → E (.ref e) { s with heap := g }) :
    wpAny (model P w) A (Builtin.SmallTypes.nextOf (.ref Z)) Q E s := by
  have ty : s.TypeIs (.ref Z) "zip" := ⟨_, kz, rfl⟩
  unfold Builtin.SmallTypes.nextOf
  refine wpAny_bind (wpAny_callSpecial?_slot (name := Str.ofString "__next__") ty F.slot_zip_next (wpAny_call_entry F.slot_zip_next ty F.entry_zip_next ?_ (F.args_zip_next_1 _)))
  exact zf_end (show A.in1.handled = none from hh) U1 U2 D ow kz ki ko a1 a2 b1 b2 no fin
theorem ez_item {e : Addr} {c : Int} {old : Value} (ne : e ≠ Z ∧ e ≠ PO ∧ e ≠ j1 ∧ e ≠ j2) (U1 : RowIt P w j1 r1 S1 R1) (U2 : RowIt P w j2 r2 S2 R2) (D : ZipApart Z PI' PO j1 j2 r1 r2) {n : Nat} {vs us : Array Value} {v u p q : Value} {Q : Value → Shared → Prop}
    (he : IsEnum s.heap e Z c old) (ow : ZOwn f0) (kz : ZpF s.heap Z PI' PO f0 fl) (ki : IsPair s.heap PI' (.ref j1) (.ref j2)) (ko : IsPair s.heap PO p q) (a1 : S1 s.heap n) (a2 : S2 s.heap n) (b1 : R1 s.heap vs) (b2 : R2 s.heap us) (ev : vs[n]? = some v) (eu : us[n]? = some u)
    (fin : ∀ g g', ZFin Z PI' PO j1 j2 S1 S2 s.heap g n v u → IsEnumOut g' e Z (c + 1) (.ref s.heap.objs.size) (s.heap.objs.size + 1) → IsPair g' (s.heap.objs.size + 1) (.int c s.toks) (.ref s.heap.objs.size) → g'.objs.size = s.heap.objs.size + 2 →
      (∀ b o, b ≠ e → g.get? b = some o → g'.get? b = some o) → Q (.ref (s.heap.objs.size + 1)) { s with heap := g', toks := s.toks + 1 }) :
    wpAny (model P w) A (Builtin.«enumerate.__next__» ⟨[.ref e], []⟩) (fun x t => ∃ y, x = .done (.ret y) ∧ Q y t) E s := by
  obtain ⟨hp, g0, d, tk, os⟩ := s
  show wpAny _ _ (field (.ref e) 2 >>= _) _ _ _
  refine wpAny_bind (wpAny_field he rfl (x := .ref Z) rfl ?_)
  refine wpAny_bind (zf_nextOf U1 U2 D ow kz ki ko a1 a2 b1 b2 ev eu fun h1 zf => ?_)
  have sz1 : h1.objs.size = hp.objs.size + 1 := zf.2.2.2.2.2.1
  have he1 : IsEnum h1 e Z c old := zf.2.2.2.2.2.2 _ _ ne.1 ne.2.1 ne.2.2.1 ne.2.2.2 he
  show wpAny _ _ (field (.ref e) 3 >>= _) _ _ ⟨h1, g0, d, tk, os⟩
  refine wpAny_bind (wpAny_field he1 rfl (x := rawInt c) rfl ?_)
  show wpAny _ _ (field (.ref e) 4 >>= _) _ _ ⟨h1, g0, d, tk, os⟩
  refine wpAny_bind (wpAny_field he1 rfl (x := .none) rfl ?_)
  show wpAny _ _ (mkInt c >>= _) _ _ ⟨h1, g0, d, tk, os⟩
  refine wpAny_bind (wpAny_mkInt ?_)
  show wpAny _ _ (setField (.ref e) 3 (rawInt (c + 1)) >>= _) _ _ ⟨h1, g0, d, tk + 1, os⟩
  refine wpAny_bind (wpAny_setField_rec he1 (by simp) fun h2 he2 hs2 => ?_)
  replace hs2 : Heap.SameBut e h1 h2 := hs2
  replace he2 : IsEnum h2 e Z (c + 1) old := he2
  show wpAny _ _ (setField (.ref e) 4 .none >>= _) _ _ ⟨h2, g0, d, tk + 1, os⟩
  refine wpAny_bind (wpAny_setField_rec he2 (by simp) fun h3 he3 hs3 => ?_)
  replace hs3 : Heap.SameBut e h2 h3 := hs3
  replace he3 : IsEnum h3 e Z (c + 1) old := he3
  show wpAny _ _ (newTuple [.int c tk, .ref hp.objs.size] >>= _) _ _ ⟨h3, g0, d, tk + 1, os⟩
  refine wpAny_bind (wpAny_newTuple ?_)
  have he4 : IsEnum (h3.push { cls := .type "tuple", data := .seq #[.int c tk, .ref hp.objs.size] }) e Z (c + 1) old := Heap.get?_push_of_some _ he3
  generalize hh4 : h3.push { cls := .type "tuple", data := .seq #[.int c tk, .ref hp.objs.size] } = h4 at he4
  have hsz : h3.objs.size = hp.objs.size + 1 := by rw [hs3.1, hs2.1, sz1]
  have hel : e < hp.objs.size := Heap.lt_size he
  have ht4 : IsPair h4 (hp.objs.size + 1) (.int c tk) (.ref hp.objs.size) := by rw [← hh4, ← hsz]; exact Heap.get?_push_size _ rfl
  have hz4 : h4.objs.size = hp.objs.size + 2 := by rw [← hh4, Heap.size_push, hsz]
  have hk4 : ∀ b o, b ≠ e → h1.get? b = some o → h4.get? b = some o := fun b o hbe hb => by
    rw [← hh4]; exact Heap.get?_push_of_some _ (hs3.extBut b o hbe (hs2.extBut b o hbe hb))
  show wpAny _ _ (Builtin.SmallTypes.ownedTupleIsFree (.ref e) >>= _) _ _ ⟨h4, g0, d, tk + 1, os⟩
  rw [hsz]
  refine wpAny_bind ?_
  unfold Builtin.SmallTypes.ownedTupleIsFree
  refine wpAny_bind (wpAny_field he4 rfl (x := .none) rfl (wpAny_pure ?_))
  simp only [if_true]
  refine wpAny_bind (wpAny_rule ?_)
  refine wpAny_bind (wpAny_field he4 rfl (x := old) rfl ?_)
  refine wpAny_bind (wpAny_setField_rec he4 (by simp) fun h5 he5 hs5 => ?_)
  replace hs5 : Heap.SameBut e h4 h5 := hs5
  replace he5 : IsEnum h5 e Z (c + 1) (.ref hp.objs.size) := he5
  show wpAny _ _ (Builtin.SmallTypes.ownedTupleHandOut (.ref e) (.ref (hp.objs.size + 1)) >>= _) _ _ ⟨h5, g0, d, tk + 1, os⟩
  refine wpAny_bind ?_
  unfold Builtin.SmallTypes.ownedTupleHandOut
  refine wpAny_bind (wpAny_setField_rec he5 (by simp) fun h6 he6 hs6 => ?_)
  replace hs6 : Heap.SameBut e h5 h6 := hs6
  replace he6 : IsEnumOut h6 e Z (c + 1) (.ref hp.objs.size) (hp.objs.size + 1) := he6
  refine wpAny_setField_rec he6 (by simp) fun h7 he7 hs7 => ?_
  replace hs7 : Heap.SameBut e h6 h7 := hs7
  replace he7 : IsEnumOut h7 e Z (c + 1) (.ref hp.objs.size) (hp.objs.size + 1) := he7
  have ne1 : hp.objs.size + 1 ≠ e := Nat.ne_of_gt (Nat.lt_succ_of_lt hel)
  refine wpAny_bind (wpAny_letGo (wpAny_pure ⟨_, rfl, fin h1 h7 zf he7 ?_ ?_ ?_⟩))
  · exact hs7.extBut _ _ ne1 (hs6.extBut _ _ ne1 (hs5.extBut _ _ ne1 ht4))
  · rw [hs7.1, hs6.1, hs5.1, hz4]
  · exact fun b o hbe hb => hs7.extBut b o hbe (hs6.extBut b o hbe (hs5.extBut b o hbe (hk4 b o hbe hb)))
theorem ez_next {e : Addr} {c : Int} {old : Value} (ne : e ≠ Z ∧ e ≠ PO ∧ e ≠ j1 ∧ e ≠ j2) (U1 : RowIt P w j1 r1 S1 R1) (U2 : RowIt P w j2 r2 S2 R2) (D : ZipApart Z PI' PO j1 j2 r1 r2) {n : Nat} {vs us : Array Value} {v u p q : Value} {Q : Option Value → Shared → Prop}
    (he : IsEnum s.heap e Z c old) (ow : ZOwn f0) (kz : ZpF s.heap Z PI' PO f0 fl) (ki : IsPair s.heap PI' (.ref j1) (.ref j2)) (ko : IsPair s.heap PO p q) (a1 : S1 s.heap n) (a2 : S2 s.heap n) (b1 : R1 s.heap vs) (b2 : R2 s.heap us) (ev : vs[n]? = some v) (eu : us[n]? = some u)
    (fin : ∀ g g', ZFin Z PI' PO j1 j2 S1 S2 s.heap g n v u → IsEnumOut g' e Z (c + 1) (.ref s.heap.objs.size) (s.heap.objs.size + 1) → IsPair g' (s.heap.objs.size + 1) (.int c s.toks) (.ref s.heap.objs.size) → g'.objs.size = s.heap.objs.size + 2 →
      (∀ b o, b ≠ e → g.get? b = some o → g'.get? b = some o) → Q (some (.ref (s.heap.objs.size + 1))) { s with heap := g', toks := s.toks + 1 }) :
    wpAny (model P w) A (pyNext (.ref e)) Q E s := by
  have ty : s.TypeIs (.ref e) "enumerate" := ⟨_, he, rfl⟩
  unfold pyNext
  refine wpAny_bind (wpAny_attempt (wpAny_callSpecial?_slot (name := Str.ofString "__next__") ty F.slot_enumerate_next
    (wpAny_call_entry F.slot_enumerate_next ty F.entry_enumerate_next ?_ (F.args_enumerate_next_1 _))))
  exact ez_item ne U1 U2 D he ow kz ki ko a1 a2 b1 b2 ev eu fun g g' a b c d k => wpAny_pure (fin g g' a b c d k)
theorem ez_none {e : Addr} {c : Int} {old : Value} (hh : A.handled = none) (U1 : RowIt P w j1 r1 S1 R1) (U2 : RowIt P w j2 r2 S2 R2) (D : ZipApart Z PI' PO j1 j2 r1 r2) {n : Nat} {vs us : Array Value} {p q : Value} {Q : Option Value → Shared → Prop}
    (he : IsEnum s.heap e Z c old) (ow : ZOwn f0) (kz : ZpF s.heap Z PI' PO f0 fl) (ki : IsPair s.heap PI' (.ref j1) (.ref j2)) (ko : IsPair s.heap PO p q) (a1 : S1 s.heap n) (a2 : S2 s.heap n) (b1 : R1 s.heap vs) (b2 : R2 s.heap us) (no : vs[n]? = none ∨ us[n]? = none)
    (fin : ∀ g, But4 Z PO j1 j2 s.heap g → Q none { s with heap := g }) : wpAny (model P w) A (pyNext (.ref e)) Q E s := by
  have ty : s.TypeIs (.ref e) "enumerate" := ⟨_, he, rfl⟩
  unfold pyNext
  refine wpAny_bind (wpAny_attempt (wpAny_callSpecial?_slot (name := Str.ofString "__next__") ty F.slot_enumerate_next
    (wpAny_call_entry F.slot_enumerate_next ty F.entry_enumerate_next ?_ (F.args_enumerate_next_1 _))))
  show wpAny _ _ (field (.ref e) 2 >>= _) _ _ _
  refine wpAny_bind (wpAny_field he rfl (x := .ref Z) rfl ?_)
  refine wpAny_bind (zf_nextStop (show A.in1.handled = none from hh) U1 U2 D ow kz ki ko a1 a2 b1 b2 no fun g x k ⟨o, ho, ce⟩ => ?_)
  exact wpAny_bind (wpAny_isInstance (T := "StopIteration") (b := true) ⟨o, ho, ce⟩ isSubtype_stop (wpAny_pure (fin g k)))
end
/-! ### enumerate(zip(tuple, list)) made -/
theorem ez_made (z TI TO : Addr) (f0 : Value) (b : Bool) :
    Meets (Builtin.«enumerate.__new__» ⟨[.type "enumerate", .ref z], []⟩) (fun _ R s => ZpF s.heap z TI TO f0 b ∧
      R (.ok (.ret (.ref s.heap.objs.size))) { s with heap := s.heap.push { cls := .type "enumerate", data := .fields #[.none, .bool false, .ref z, rawInt 0, .none, .none] } }) :=
  .of_wp fun P w A R s h => by
    obtain ⟨hp, g, d, tk, os⟩ := s
    obtain ⟨h1, h⟩ := h
    have hsub := sub_enumerate
    have q1 : ∀ {A' : Around} {E : Value → Shared → Prop} {Q : Value → Shared → Prop}, Q (.ref z) ⟨hp, g, d, tk, os⟩ → wpAny (model P w) A' (pyIter (.ref z)) Q E ⟨hp, g, d, tk, os⟩ := fun q => by
      have hT : Shared.TypeIs ⟨hp, g, d, tk, os⟩ (.ref z) "zip" := ⟨_, h1, rfl⟩
      refine wpAny_pyIter_slot hT F.slot_zip_iter (wpAny_call_entry F.slot_zip_iter hT F.entry_zip_iter ?_ (F.args_zip_iter_1 _))
      show wpAny _ _ (ret (.ref z)) _ _ _
      exact wpAny_pure ⟨_, rfl, "zip", _, hT, F.slot_zip_next.lookup, q⟩
    wp_walk using q1
    refine wpAny_stack_any fun st => wpAny_pure ?_
    split
    · rename_i c _ _ _ _ _
      cases (c == Value.type "enumerate")
      · wp_walk using q1
        exact ⟨_, rfl, h⟩
      · wp_walk using q1
        exact ⟨_, rfl, h⟩
    · wp_walk using q1
      exact ⟨_, rfl, h⟩
theorem ez_call {P : Program} {w : World} {A : Around} {E : Value → Shared → Prop} {s : Shared} {z TI TO : Addr} {f0 : Value} {b : Bool} {Q : Value → Shared → Prop} (k : ZpF s.heap z TI TO f0 b)
    (h : ∀ g, IsEnum g s.heap.objs.size z 0 .none → g.objs.size = s.heap.objs.size + 1 → (∀ c o, s.heap.get? c = some o → g.get? c = some o) → Q (.ref s.heap.objs.size) { s with heap := g }) :
    wpAny (model P w) A (call (.type "enumerate") [.ref z]) Q E s := by
  refine callType_new F.called_enumerate (by decide) (F.typeCall_enumerate_1 _) (F.newCall_enumerate_1 _) (fun obj => F.args_object_init_2 obj _) F.entry_enumerate_new (ez_made z TI TO f0 b) ⟨k, ?_⟩
  show _ ∧ _
  have he : IsEnum (s.heap.push { cls := .type "enumerate", data := .fields #[.none, .bool false, .ref z, rawInt 0, .none, .none] }) s.heap.objs.size z 0 .none := Heap.get?_push_size _ rfl
  exact ⟨⟨_, he, rfl⟩, h _ he (Heap.size_push ..) fun c o x => Heap.get?_push_of_some _ x⟩
/-- the tuple at a and the list at b as they stand at each turn: a number and a pair -/
def Itez (K : PySem.W.Frag) (a b : Addr) : It :=
  ⟨fun i H => ∃ (ys xs : List V) (y x : V), SqT K H a ys ∧ SqL K H b xs ∧ ys[i]? = some y ∧ xs[i]? = some x,
    fun i H v H' => ∃ T1 T y x, v = .ref T ∧ H T1 = none ∧ upd H T1 (.tup [y, x]) T = none ∧ H' = upd (upd H T1 (.tup [y, x])) T (.tup [.int (i : Nat), .ref T1]) ∧ (∀ ys, SqT K H a ys → ys[i]? = some y) ∧ ∀ xs, SqL K H b xs → xs[i]? = some x,
    fun i H => ∃ ys xs : List V, SqT K H a ys ∧ SqL K H b xs ∧ (ys.length ≤ i ∨ xs.length ≤ i)⟩
theorem turn_ez {P : Program} {w : World} {K : PySem.W.Frag} {elts : List Expr} {kk : Nat} {tpos : Pos} {a b e Z PI' PO j1 j2 : Addr} (D : ZipApart Z PI' PO j1 j2 a b) (ne : e ∉ [Z, PI', PO, j1, j2]) :
    Turn P w K (.Tuple elts kk tpos) (Itez K a b) [e, Z, PI', PO, j1, j2] e (fun i g => (∃ old, IsEnum g e Z ((i : Nat) : Int) old) ∧ (∃ f0 fl, ZOwn f0 ∧ ZpF g Z PI' PO f0 fl) ∧ IsPair g PI' (.ref j1) (.ref j2) ∧ (∃ x y, IsPair g PO x y) ∧ g.IsTupleIter j1 a i ∧ g.IsListIter j2 b i) := by
  have nn : e ≠ Z ∧ e ≠ PI' ∧ e ≠ PO ∧ e ≠ j1 ∧ e ≠ j2 := by simpa using ne
  have six : ∀ {c : Addr}, c ∈ [e, Z, PI', PO, j1, j2] → c = e ∨ c = Z ∨ c = PI' ∨ c = PO ∨ c = j1 ∨ c = j2 := fun h => by simpa using h
  have off : ∀ {c : Addr}, c ∉ [e, Z, PI', PO, j1, j2] → c ≠ e ∧ c ≠ Z ∧ c ≠ PI' ∧ c ≠ PO ∧ c ≠ j1 ∧ c ≠ j2 := fun h => by simpa using h
  refine ⟨by simp, fun i g st c hc => ?_, fun i f g st k => ?_, ?_, ?_, fun A i s Q E st h => ?_⟩
  · obtain ⟨⟨old, he⟩, ⟨f0, fl, _, kz⟩, ki, ⟨x, y, ko⟩, k1, k2⟩ := st
    rcases six hc with z | z | z | z | z | z <;> subst z
    · exact ⟨_, he, fun v z => nomatch z⟩
    · exact ⟨_, kz, fun v z => nomatch z⟩
    · exact ⟨_, ki, fun v z => nomatch z⟩
    · exact ⟨_, ko, fun v z => nomatch z⟩
    · exact (rowIt_tup (P := P) (w := w)).ob k1
    · exact (rowIt_lst (P := P) (w := w)).ob k2
  · obtain ⟨⟨old, he⟩, ⟨f0, fl, ow, kz⟩, ki, ⟨x, y, ko⟩, k1, k2⟩ := st
    exact ⟨⟨old, k e (by simp) _ he⟩, ⟨f0, fl, ow, k Z (by simp) _ kz⟩, k PI' (by simp) _ ki, ⟨x, y, k PO (by simp) _ ko⟩, k1.at fun o z => k j1 (by simp) o z, k2.at fun o z => k j2 (by simp) o z⟩
  · intro X eP ew eK calm i pins s σ H E I hf st go
    subst eP ew eK
    obtain ⟨⟨old, he⟩, ⟨f0, fl, ow, kz⟩, ki, ⟨x0, y0, ko⟩, k1, k2⟩ := st
    obtain ⟨ys, xs, y, x, sy, sx, hy, hx⟩ := go
    obtain ⟨ts, rt, pt, _⟩ := I.tuple sy
    obtain ⟨ls, rl, pl, _⟩ := I.list sx
    obtain ⟨u, hu, ru⟩ := rt.get hy
    obtain ⟨v, hv, rv⟩ := rl.get hx
    have le : e < s.heap.objs.size := Heap.lt_size he
    have lz : Z < s.heap.objs.size := Heap.lt_size kz
    refine ez_next ⟨nn.1, nn.2.2.1, nn.2.2.2.1, nn.2.2.2.2⟩ rowIt_tup rowIt_lst D he ow kz ki ko k1 k2 pt pl.isList (v := u) (u := v) (by simpa using hu) (by simpa using hv) fun g g' zf eo pr sz k => ?_
    obtain ⟨zz, zp, m1, m2, t1, sz1, k4⟩ := zf
    refine ⟨_, rfl, wpAny_letOwnedTupleGo_enum (s := { s with heap := g', toks := s.toks + 1 }) eo fun g'' he' sb => ?_⟩
    have I1 : Inv X pins σ (upd H s.heap.objs.size (.tup [y, x])) { s with heap := g } := I.turnedNew (t' := s.toks) (ch := [e, Z, PI', PO, j1, j2]) (fun c o nb z => k4 c o (off nb).2.1 (off nb).2.2.2.1 (off nb).2.2.2.2.1 (off nb).2.2.2.2.2 z) hf (Nat.le_refl _)
      ⟨by show 2 ≤ sizeLine; decide, [u, v], .cons ru (.cons rv .nil), ⟨_, t1, rfl, _, rfl⟩⟩
    have lt : ∀ c ∈ [e, Z, PI', PO, j1, j2], c < s.heap.objs.size := fun c hc => by
      rcases six hc with z | z | z | z | z | z <;> subst z
      · exact le
      · exact lz
      · exact Heap.lt_size ki
      · exact Heap.lt_size ko
      · obtain ⟨_, z, _⟩ := k1; exact Heap.lt_size z
      · obtain ⟨_, z, _⟩ := k2; exact Heap.lt_size z
    have hf1 : ∀ c ∈ [e, Z, PI', PO, j1, j2], FpOk X pins (upd H s.heap.objs.size (.tup [y, x])) c := fun c hc => ⟨by rw [upd_ne (Nat.ne_of_lt (lt c hc))]; exact (hf c hc).1, (hf c hc).2⟩
    have kk : ∀ c o, c ≠ e → g.get? c = some o → g''.get? c = some o := fun c o nb z => (sb.2 c nb).trans (k c o nb z)
    have hT1 : upd H s.heap.objs.size (.tup [y, x]) s.heap.objs.size = some (.tup [y, x]) := upd_same
    have sz2 : ({ s with heap := g } : Shared).heap.objs.size = s.heap.objs.size + 1 := sz1
    have lT : s.heap.objs.size + 1 ≠ e := Nat.ne_of_gt (Nat.lt_succ_of_lt le)
    have pr' : IsPair g'' (s.heap.objs.size + 1) (.int ((i : Nat) : Int) s.toks) (.ref s.heap.objs.size) := (sb.2 _ lT).trans pr
    have I2 := I1.turnedNew (t' := s.toks + 1) (ch := [e, Z, PI', PO, j1, j2]) (T := s.heap.objs.size + 1) (ob := .tup [.int (i : Nat), .ref s.heap.objs.size]) (h' := g'') (fun c o nb z => kk c o (off nb).1 z) hf1 (by rw [sz2]; exact Nat.le_refl _)
      ⟨by show 2 ≤ sizeLine; decide, [.int ((i : Nat) : Int) s.toks, .ref s.heap.objs.size], .cons ⟨_, rfl⟩ (.cons rfl .nil), ⟨_, pr', rfl, _, rfl⟩⟩
    refine ⟨.ref (s.heap.objs.size + 1), _, I2, rfl, ⟨s.heap.objs.size, _, y, x, rfl, I.hok.fresh (Nat.le_refl _), ?_, rfl, fun l hl => by rw [I.tuple_inj hl sy]; exact hy, fun l hl => by rw [I.list_inj hl sx]; exact hx⟩, ?_, fun c hc => ?_⟩
    · exact I1.hok.fresh (by rw [sz2]; exact Nat.le_refl _)
    · obtain ⟨f1, b1, ow1, z1⟩ := zz
      obtain ⟨x1, y1, o1⟩ := zp
      refine ⟨⟨_, by rw [show ((i + 1 : Nat) : Int) = (i : Int) + 1 by omega]; exact he'⟩, ⟨f1, b1, ow1, kk _ _ nn.1.symm z1⟩, kk _ _ nn.2.1.symm (k4 _ _ D.TIz D.TITO D.TIi1 D.TIi2 ki), ⟨_, _, kk _ _ nn.2.2.1.symm o1⟩, m1.at fun o z => kk _ _ nn.2.2.2.1.symm z, m2.at fun o z => kk _ _ nn.2.2.2.2.symm z⟩
    · rw [upd_ne (Nat.ne_of_lt (Nat.lt_succ_of_lt (lt c hc)))]
      exact (hf1 c hc).1
  · intro X eP ew eK calm i pins s σ H E I hf st no
    subst eP ew eK
    obtain ⟨⟨old, he⟩, ⟨f0, fl, ow, kz⟩, ki, ⟨x0, y0, ko⟩, k1, k2⟩ := st
    obtain ⟨ys, xs, sy, sx, no⟩ := no
    obtain ⟨ts, rt, pt, _⟩ := I.tuple sy
    obtain ⟨ls, rl, pl, _⟩ := I.list sx
    have l1 := rt.length
    have l2 := rl.length
    refine ez_none (I.ok.hd calm) rowIt_tup rowIt_lst D he ow kz ki ko k1 k2 pt pl.isList ?_ fun g k => ⟨rfl, I.turnedL (t' := s.toks) (ch := [e, Z, PI', PO, j1, j2]) (fun c o nb z => k c o (off nb).2.1 (off nb).2.2.2.1 (off nb).2.2.2.2.1 (off nb).2.2.2.2.2 z) hf⟩
    rcases no with z | z
    · exact .inl (by simp; omega)
    · exact .inr (by simp; omega)
  · obtain ⟨⟨old, he⟩, _⟩ := st
    exact wpAny_pyIter_enum he h
def iEZ (K : PySem.W.Frag) (ta : TA) : TI := fun σ H R => ta σ H fun vs H1 => ∃ a b ys xs, vs = [.ref a, .ref b] ∧ SqT K H1 a ys ∧ SqL K H1 b xs ∧ R (Itez K a b) H1
theorem pi_enumZip {X : Cx} {e e2 : Expr} {ta : TA} {p q pos pos2 tpos : Pos} {elts : List Expr} {kk : Nat} {K : PySem.W.Frag} (eK : X.K = K) (hg1 : Gl X "enumerate") (hm1 : X.mg "enumerate" = none) (hg : Gl X "zip") (hm : X.mg "zip" = none) (ha : PA X [e, e2] ta)
    (hs : starEach [e, e2] X.env = (false, eval e X.env) :: starEach [e2] X.env := by rfl) (hp : (backTo pos2 (starEach [e2] X.env)).any (·.1) = false := by rfl)
    (hs1 : starEach [.Call (.Name "zip" q) [e, e2] [] pos2] X.env = [(false, eval (.Call (.Name "zip" q) [e, e2] [] pos2) X.env)] := by rfl) :
    PI X (.Tuple elts kk tpos) (.Call (.Name "enumerate" p) [.Call (.Name "zip" q) [e, e2] [] pos2] [] pos) (iEZ K ta) := by
  subst eK
  constructor
  intro pins s σ H R I h
  refine Call_ (ld_blt I hg1 hm1 boot_enumerate (PyProof.Rows.callWith_type1 ?_ hs1 rfl))
  rw [hs1]
  show wpAny _ _ (spliced [(false, eval (.Call (.Name "zip" q) [e, e2] [] pos2) X.env)]) _ _ _
  refine Calls.spliced_cons ?_
  refine Call_ (ld_blt I hg hm PyProof.Rows.boot_zip (PyProof.Rows.callWith_type1 (thn (ha.run pos2 pins s σ H _ I h) fun us t ⟨vs, H1, I1, rs, a, b, ys, xs, ev, sy, sx, q⟩ => ?_) hs hp))
  subst ev
  cases rs with
  | cons ra rs =>
  cases rs with
  | cons rb rs =>
  cases rs
  cases ra
  cases rb
  obtain ⟨ts, _, pt, _⟩ := I1.tuple sy
  obtain ⟨ls, _, pl, _⟩ := I1.list sx
  obtain ⟨oa, ha, _⟩ := id pt
  refine mx_call (show t.heap.IsTuple a ts.toArray from pt) pl.isList fun g kz ki ko k1 k2 sz k => Calls.spliced_nil ?_
  refine ez_call (s := { t with heap := g }) (show ZpF g _ _ _ .none false from kz) fun g2 he sz2 kk => wpAny_pyIter_enum he ?_
  have I2 : Inv X pins σ H1 { t with heap := g2 } := I1.kept (t' := t.toks) fun c o z => kk c o (k c o z)
  have sz : ({ t with heap := g } : Shared).heap.objs.size = t.heap.objs.size + 5 := sz
  rw [sz] at he ⊢
  refine ⟨t.heap.objs.size + 5, [t.heap.objs.size + 5, t.heap.objs.size + 4, t.heap.objs.size + 2, t.heap.objs.size + 3, t.heap.objs.size, t.heap.objs.size + 1], _, _, H1, rfl, I2, turn_ez (PySem.W.ktu_apart t.heap.objs.size a b (Heap.lt_size ha) pl.lt) ?_, ⟨⟨_, he⟩, ⟨.none, false, .inl rfl, kk _ _ kz⟩, kk _ _ ki, ⟨_, _, kk _ _ ko⟩, k1.at fun o z => kk _ _ z, k2.at fun o z => kk _ _ z⟩, fun c hc => ?_, q⟩
  · intro z
    simp only [List.mem_cons, List.not_mem_nil, or_false] at z
    generalize t.heap.objs.size = N at z
    have z : N + 5 = N + 4 ∨ N + 5 = N + 2 ∨ N + 5 = N + 3 ∨ N + 5 = N ∨ N + 5 = N + 1 := z
    omega
  have le : t.heap.objs.size ≤ c := by
    simp only [List.mem_cons, List.not_mem_nil, or_false] at hc
    rcases hc with e | e | e | e | e | e <;> rw [e] <;> first | exact Nat.le_add_right _ _ | exact Nat.le_refl _
  exact I1.fpOk le (I1.hok.fresh le)
section
variable {K : PySem.W.Frag} {F : Fx} {δ : Se}
theorem w_enumZip {t : TA} : WiD K F δ (iEZ K t) (fun M => EA K F δ t fun ds => ∃ xs ys, ds = [.tuple xs, .list ys] ∧ M (enumD 0 (zipD xs ys))) :=
  ⟨fun M M' m h => h.mono fun d ⟨xs, ys, e, z⟩ => ⟨xs, ys, e, m _ z⟩, fun O H σ M R S h k => h O H σ S _ fun H1 vs ds k1 S1 t1 ⟨xs, ys, e, m⟩ => by
    subst e
    obtain ⟨v, w, rfl, h1, h2⟩ := dts_two t1
    cases h1 with
    | tup s1 u1 =>
    cases h2 with
    | lst s2 u2 =>
      refine ⟨_, _, _, _, rfl, s1.sq, s2.sq, k H1 _ (enumD 0 (zipD xs ys)) k1 S1 m fun O2 H2 i st fr => ?_⟩
      have q1 := s1.keep (av' := F.cur O2) (H' := H2) fun c o e => st _ o c e
      have q2 := s2.keep (av' := F.cur O2) (H' := H2) fun c o e => st _ o c e
      have t1 := u1.stp st
      have t2 := u2.stp st
      rw [enumD_len, zipD_len]
      refine ⟨fun hi => ?_, fun hi => ⟨_, _, q1.sq, q2.sq, by rw [t1.length, t2.length]; omega⟩⟩
      have i1 := List.getElem?_eq_getElem (show i < _ by rw [t1.length]; omega)
      have i2 := List.getElem?_eq_getElem (show i < _ by rw [t2.length]; omega)
      refine ⟨⟨_, _, _, _, q1.sq, q2.sq, i1, i2⟩, fun x H3 y => ?_⟩
      obtain ⟨T1, T, x1, y1, rfl, n1, nT, rfl, y2, y3⟩ := y
      obtain ⟨d, e1, t3⟩ := t1.get (y2 _ q1.sq)
      obtain ⟨e, e2, t4⟩ := t2.get (y3 _ q2.sq)
      have sm1 : Same H2 (upd H2 T1 (.tup [x1, y1])) := same_new n1
      have sm2 : Same (upd H2 T1 (.tup [x1, y1])) (upd (upd H2 T1 (.tup [x1, y1])) T (.tup [.int (i : Nat), .ref T1])) := same_new nT
      have TT : T1 ≠ T := fun z => by rw [← z, upd_same] at nT; cases nT
      have nT0 : H2 T = none := by rw [← nT]; exact (upd_ne (Ne.symm TT)).symm
      refine ⟨sm1.trans sm2, _, enumD_get (zipD_get e1 e2), .tup (.of (fr _ nT0) upd_same) (.cons ?_ (.cons (.tup (.of (fr _ n1) (by rw [upd_ne TT]; exact upd_same)) (Dts.stp (O := O2) (O1 := O2) (fun b o c h => ⟨c, (sm1.trans sm2) _ _ h⟩) (.cons t3 (.cons t4 .nil)))) .nil))⟩
      rw [Nat.zero_add]
      exact .int _⟩
end
end Pg
set_option exponentiation.threshold 2000
/-! Pg69: drawn rows, looks of heaps, spots. -/
namespace Pg
open PySem PySem.Spec PyProof.Rows L2
theorem look_wt {rs ss : List HR} (h : ∀ H, wt rs H = wt ss H) (m : Pt) : lookL rs m = lookL ss m := by
  unfold lookL
  rw [← wsum_filter (fun H => hasB H m), ← wsum_filter (fun H => hasB H m), wsum_wt _ h]
theorem HeapOf.look {rs ss : List HR} (h : HeapOf rs ss) (m : Pt) : lookL ss m = lookL rs m := look_wt h.eq m
end Pg
set_option exponentiation.threshold 2000
/-! Pg70: a list put to the own list; heaps inside out; heaps drawn by ways. -/
namespace Pg
open PySem PySem.Spec PyProof.Rows L2
section
variable {K : PySem.W.Frag} {F : Fx} {δ : Se} {P : Po} {te : TE} {i : Nat}
end
end Pg
namespace Pg
open PySem PySem.Spec PyProof.Rows L2
/-! ### the spare heap of some laws -/
/-! ### insides -/
end Pg
set_option exponentiation.threshold 2000
/-! Pg71: half plane sums of heaps. -/
namespace Pg
open PySem PySem.Spec PyProof.Rows L2
theorem wt_small {B : Nat} (H : List Pt) : ∀ {rs : List HR}, (∀ r ∈ rs, r.2.natAbs ≤ B) → (wt rs H).natAbs ≤ B * rs.length
  | [], _ => Nat.zero_le _
  | r :: rs, h => by
    have ih := wt_small H (rs := rs) fun q mq => h q (List.mem_cons_of_mem _ mq)
    have h1 := h r List.mem_cons_self
    rw [wt_cons, List.length_cons, Nat.mul_succ]
    split <;> omega
theorem HeapOf.small {rs ss : List HR} (h : HeapOf rs ss) {B : Nat} (b : ∀ r ∈ rs, r.2.natAbs ≤ B) : ∀ r ∈ ss, r.2.natAbs ≤ B * rs.length := fun r m => by
  rw [← h.can.nd.wt r m, h.eq]
  exact wt_small _ b
theorem shw_rows {rs : List HR} (l : rs.length ≤ 100) (h : ∀ r ∈ rs, r.1.length ≤ 20 ∧ (∀ s ∈ r.1, GP s) ∧ r.2.natAbs < 10 ^ 500) : Shw (.list (rs.map rowD)) := shw_lst (fun d m => by
  obtain ⟨r, mr, rfl⟩ := List.mem_map.mp m
  obtain ⟨a, b, c⟩ := h r mr
  exact ok0_row a b c) (by rw [List.length_map]; exact l)
end Pg
set_option exponentiation.threshold 2000
/-! Pg72: a != b and len(a) by own methods. -/
namespace Pg
open PySem PySem.Spec PyProof.Rows L2
open PySem.W in
section
variable {prog : Program} {w : World} {A : Around} {E : Value → Shared → Prop} {s : Shared} {K : PySem.W.Frag} {x C L f : Addr} {h₀ : Heap} {m : Str → Option Value} {ox : Obj} {od : Option Obj} {b tb : Value}
end
/-! ### len(x) by an own __len__ -/
section
variable {prog : Program} {w : World} {A : Around} {E : Value → Shared → Prop} {s : Shared} {K : PySem.W.Frag} {x C f : Addr} {ox : Obj} {od : Option Obj}
end
section
variable {X : Cx} {k : Nat} {C : Addr} {m : Str} {ps : List Str} {sp : Sp}
end
section
variable {K : PySem.W.Frag} {F : Fx} {C : Addr} {G : List PyData → (PyData → Prop) → Prop}
end
end Pg
set_option exponentiation.threshold 2000
/-! Pg73: op= on objects whose class has no op= of its own; an object against a number or a list. -/
namespace Pg
open PySem PySem.Spec PyProof.Rows L2
section
variable {prog : Program} {w : World} {A : Around} {E : Value → Shared → Prop} {s : Shared} {K : PySem.W.Frag} {x C L f : Addr} {ox : Obj} {od : Option Obj} {b tb : Value}
end
section
variable {X : Cx} {k : Nat} {C : Addr} {ps : List Str} {sp : Sp}
end
section
variable {K : PySem.W.Frag} {F : Fx} {C : Addr} {G : List PyData → (PyData → Prop) → Prop} {i : Nat} {δ : Se} {P : Po} {P' : PyData → Prop} {te : TE}
end
end Pg
set_option exponentiation.threshold 2000
/-! Pg74: a dict and a list made at once; rows summed. -/
namespace Pg
open PySem PySem.Spec PyProof.Rows L2
section
variable {K : PySem.W.Frag} {F : Fx} {δ : Se} {R : Po} {i j : Nat}
end
end Pg
namespace Pg
open PySem PySem.Spec PyProof.Rows L2
end Pg
set_option exponentiation.threshold 2000
/-! Pg75: lists made item by item by a relation; lists of rows shown. -/
namespace Pg
open PySem PySem.Spec PyProof.Rows L2
/-- item by item -/
def R2L {α β : Type} (R : α → β → Prop) (L : List α) (M : List β) : Prop := M.length = L.length ∧ ∀ (i : Nat) (a : α) (b : β), L[i]? = some a → M[i]? = some b → R a b
section
variable {α β : Type} {R : α → β → Prop}
theorem R2L.nil : R2L R [] [] := ⟨rfl, fun i a b h => by cases h⟩
theorem R2L.cons {a : α} {b : β} {L : List α} {M : List β} (h : R a b) (t : R2L R L M) : R2L R (a :: L) (b :: M) := ⟨by rw [List.length_cons, List.length_cons, t.1], fun i x y e1 e2 => by
  cases i with
  | zero => cases e1; cases e2; exact h
  | succ i => exact t.2 i x y e1 e2⟩
theorem R2L.uniq {L : List α} {M N : List β} (h1 : R2L R L M) (h2 : R2L R L N) (u : ∀ a ∈ L, ∀ b c, R a b → R a c → b = c) : M = N := by
  refine List.ext_getElem? fun i => ?_
  by_cases hi : i < L.length
  · have a1 : i < M.length := by rw [h1.1]; exact hi
    have a2 : i < N.length := by rw [h2.1]; exact hi
    rw [List.getElem?_eq_getElem a1, List.getElem?_eq_getElem a2]
    exact congrArg some (u _ (List.getElem_mem hi) _ _ (h1.2 i _ _ (List.getElem?_eq_getElem hi) (List.getElem?_eq_getElem a1)) (h2.2 i _ _ (List.getElem?_eq_getElem hi) (List.getElem?_eq_getElem a2)))
  · rw [List.getElem?_eq_none (by rw [h1.1]; omega), List.getElem?_eq_none (by rw [h2.1]; omega)]
theorem R2L.fn {f : α → β} : ∀ {L : List α}, R2L (fun a b => b = f a) L (L.map f)
  | [] => .nil
  | a :: L => .cons rfl R2L.fn
theorem R2L.toFn {f : α → β} {L : List α} {M : List β} (h : R2L (fun a b => b = f a) L M) : M = L.map f := h.uniq .fn fun a _ b c e1 e2 => e1.trans e2.symm
theorem R2L.snoc {a : α} {b : β} {L : List α} {M : List β} (t : R2L R L M) (h : R a b) : R2L R (L ++ [a]) (M ++ [b]) := ⟨by rw [List.length_append, List.length_append, t.1]; rfl, fun i x y e1 e2 => by
  by_cases hi : i < L.length
  · rw [List.getElem?_append_left hi] at e1
    rw [List.getElem?_append_left (by rw [t.1]; exact hi)] at e2
    exact t.2 i x y e1 e2
  · rw [List.getElem?_append_right (by omega)] at e1
    rw [List.getElem?_append_right (by rw [t.1]; omega), t.1] at e2
    cases z : i - L.length with
    | zero => rw [z] at e1 e2; cases e1; cases e2; exact h
    | succ n => rw [z] at e1; cases e1⟩
end
theorem v_mapR {α β : Type} {K : PySem.W.Frag} {F : Fx} {δ : Se} {PD : PyData → Prop} {g : TG} {vs : List Nat} {wi : TI} {te : TE} {G : (List PyData → Prop) → Prop} (w : WiD K F δ wi G) (gw : GW g vs) (L : List α) (d : α → PyData) (k : β → PyData) (R : α → β → Prop)
    (h : G fun ds => ds = L.map d ∧ L.length ≤ 1000000 ∧ (∀ a ∈ L, GV K F (wipeS δ vs) g (d a) fun δ2 => EV K F δ2 te fun y => ∃ b, y = k b ∧ R a b) ∧ ∀ M : List β, R2L R L M → PD (.list (M.map k))) : EV K F δ (tLc wi g tYes te vs) PD := by
  refine v_lc w gw (w.mono _ _ (fun ds z => ?_) h)
  obtain ⟨rfl, hl, he, hp⟩ := z
  refine ⟨fun j acc => ∃ M : List β, acc = M.map k ∧ R2L R (L.take j) M, ⟨[], rfl, by rw [List.take_zero]; exact .nil⟩, fun j x acc hx I => ?_, fun acc I => ?_⟩
  · obtain ⟨M, rfl, hM⟩ := I
    rw [List.getElem?_map] at hx
    obtain ⟨a, ha, rfl⟩ := Option.map_eq_some_iff.mp hx
    have lk := (List.getElem?_eq_some_iff.mp ha).1
    have lM := hM.1
    rw [List.length_take] at lM
    refine fun O H σ v S t Q' q => he a (List.mem_of_getElem? ha) O H σ v S t Q' fun σ' δ' S' n => q σ' δ' S' (b_yes ⟨fun _ => n.mono fun y ⟨m, ey, qm⟩ => ?_, fun z => Bool.noConfusion z⟩)
    subst ey
    refine ⟨by rw [List.length_map]; omega, M ++ [m], by rw [List.map_append]; rfl, ?_⟩
    rw [List.take_add_one, ha]
    exact hM.snoc qm
  · obtain ⟨M, rfl, hM⟩ := I
    rw [List.length_map, List.take_length] at hM
    exact hp M hM
end Pg
set_option exponentiation.threshold 2000
/-! Pg76: heaps cut by half planes. -/
namespace Pg
open PySem PySem.Spec PyProof.Rows L2
/-- the hull of some places -/
noncomputable def hlS (S : List Pt) : List Pt := by
  classical
  exact if h : ∀ s ∈ S, FP s then hullP (Classical.choose (exists_ord h)) else []
theorem hlS_eq {S T : List Pt} (h : ∀ s ∈ S, FP s) (O : Ord S T) : hullP T = hlS S := by
  unfold hlS
  rw [dif_pos h, O.uniq (Classical.choose_spec (exists_ord h)) fun _ => Iff.rfl]
theorem hlS_plate {S : List Pt} (g : ∀ s ∈ S, GP s) (n : S ≠ []) : PlateH (hlS S) ∧ (∀ s ∈ hlS S, s ∈ S) ∧ (hlS S).length ≤ S.length := by
  obtain ⟨T, O⟩ := exists_ord fun s m => (g s m).1
  rw [← hlS_eq (fun s m => (g s m).1) O]
  exact plateH_of g n O
/-- rows that may be cut -/
structure CutOk (a b c : Int) (ss : List HR) : Prop where
  l : ss.length ≤ 1000
  k : B60' a b c
  p : ∀ r ∈ ss, PlateH r.1 ∧ r.1.length ≤ 10 ∧ (∀ s ∈ r.1, Bk 120 120 s)
  s : ∀ r ∈ ss, Pls (cutS r.1 a b c) ∧ ∀ s ∈ cutS r.1 a b c, Bk 120 120 s
theorem CutOk.g {a b c : Int} {ss : List HR} (h : CutOk a b c ss) {r : HR} (m : r ∈ ss) : ∀ s ∈ cutS r.1 a b c, GP s := fun s ms => ((h.s r m).2 s ms).gp (by decide) (by decide)
end Pg
set_option exponentiation.threshold 2000
/-! Pg77: heaps led by maps, scaled, mirrored. -/
namespace Pg
open PySem PySem.Spec PyProof.Rows L2
/-- small maps, the last number below 8 -/
structure Mq (m : Mp) : Prop where
  a : m.a.natAbs < 2 ^ 3
  b : m.b.natAbs < 2 ^ 3
  c : m.c.natAbs < 2 ^ 3
  d : m.d.natAbs < 2 ^ 3
  e : m.e.natAbs < 2 ^ 3
  f : m.f.natAbs < 2 ^ 3
  n0 : 0 < m.n
  n : m.n.natAbs < 2 ^ 3
theorem mq_bk {m : Mp} (hm : Mq m) {i j : Nat} (hij : j ≤ i) {p : Pt} (hp : Bk i j p) : plD (m.a * p.x + m.b * p.y + m.e * p.w) (m.c * p.x + m.d * p.y + m.f * p.w) (m.n * p.w) = pD (mpP m p) ∧ Bk (i + 5) (j + 3) (mpP m p) ∧ ∃ k, 0 < k ∧ m.a * p.x + m.b * p.y + m.e * p.w = k * (mpP m p).x ∧ m.c * p.x + m.d * p.y + m.f * p.w = k * (mpP m p).y ∧ m.n * p.w = k * (mpP m p).w := by
  obtain ⟨h1, h2, k, hk, ex, ey, ed, lx, ly, ld⟩ := pN_ok (x := m.a * p.x + m.b * p.y + m.e * p.w) (y := m.c * p.x + m.d * p.y + m.f * p.w) (d := m.n * p.w) (Int.mul_pos hm.n0 hp.f.w)
  have w' := abs_up hp.w hij
  have b1 := abs_three hm.a hm.b hm.e hp.x hp.y w'
  have b2 := abs_three hm.c hm.d hm.f hp.x hp.y w'
  have b3 := wide_lt hm.n hp.w
  refine ⟨h1, ⟨h2, abs_to b1 lx (by omega), abs_to b2 ly (by omega), abs_to b3 ld (by omega)⟩, k, hk, ex, ey, ed⟩
/-- a plate led -/
noncomputable def mapH (m : Mp) (H : List Pt) : List Pt := hlS (H.map (mpP m))
noncomputable def mapR (m : Mp) (rs : List HR) : List HR := rs.map fun r => (mapH m r.1, r.2)
/-- plates that may be led -/
def LedP (i j : Nat) (H : List Pt) : Prop := PlateH H ∧ H.length ≤ 20 ∧ ∀ s ∈ H, Bk i j s
def LedOk (i j : Nat) (rs : List HR) : Prop := ∀ r ∈ rs, LedP i j r.1
theorem LedP.map_bk {i j : Nat} {H : List Pt} (h : LedP i j H) {m : Mp} (hm : Mq m) (hij : j ≤ i) : ∀ s ∈ H.map (mpP m), Bk (i + 5) (j + 3) s := fun s ms => by
  obtain ⟨p, mp, rfl⟩ := List.mem_map.mp ms
  exact (mq_bk hm hij (h.2.2 p mp)).2.1
theorem LedP.map {i j : Nat} {H : List Pt} (h : LedP i j H) {m : Mp} (hm : Mq m) (hij : j ≤ i) (hi : i + 5 ≤ 140) : LedP (i + 5) (j + 3) (mapH m H) := by
  have b := h.map_bk hm hij
  obtain ⟨P, ml, l⟩ := hlS_plate (fun s ms => (b s ms).gp hi (by omega)) (fun e => h.1.ne (List.map_eq_nil_iff.mp e))
  rw [List.length_map] at l
  exact ⟨P, Nat.le_trans l h.2.1, fun s ms => b s (ml s ms)⟩
theorem LedOk.map {i j : Nat} {rs : List HR} (h : LedOk i j rs) {m : Mp} (hm : Mq m) (hij : j ≤ i) (hi : i + 5 ≤ 140) : LedOk (i + 5) (j + 3) (mapR m rs) := fun r mr => by
  obtain ⟨q, mq, rfl⟩ := List.mem_map.mp mr
  exact (h q mq).map hm hij hi
section
variable {K : PySem.W.Frag} {F : Fx} {δ : Se} {R : Po} {i r : Nat}
end
end Pg
namespace Pg
open PySem PySem.Spec PyProof.Rows L2
end Pg
set_option exponentiation.threshold 2000
/-! Pg78: lists of own objects, not unlike one another. -/
namespace Pg
open PySem PySem.SeqAt GQ
open AutoSeq1 (wpAny_loadPart')
open MeetsSeq MeetsSeq2 MeetsSeq3 SeqRoads2
section
variable {prog : Program} {w : World} {A : Around} {E : Value → Shared → Prop} {R : Result → Shared → Prop}
end
end Pg
namespace Pg
open PySem PySem.Spec PyProof.Rows L2
section
variable {X : Cx} {k : Nat} {C : Addr} {ps : List Str} {sp : Sp}
end
section
variable {K : PySem.W.Frag} {F : Fx} {C : Addr} {G : List PyData → (PyData → Prop) → Prop}
end
end Pg
set_option exponentiation.threshold 2000
/-! Pg79: looks of cut heaps, heaps cut again. -/
namespace Pg
open PySem PySem.Spec PyProof.Rows L2
theorem CutOk.f {a b c : Int} {rs : List HR} (h : CutOk a b c rs) {r : HR} (m : r ∈ rs) : ∀ s ∈ r.1, FP s := fun s ms => ((h.p r m).2.2 s ms).f
theorem CutOk.tail {a b c : Int} {r : HR} {rs : List HR} (h : CutOk a b c (r :: rs)) : CutOk a b c rs := ⟨by have := h.l; rw [List.length_cons] at this; omega, h.k, fun q m => h.p q (List.mem_cons_of_mem _ m), fun q m => h.s q (List.mem_cons_of_mem _ m)⟩
end Pg
namespace Pg
open PySem PySem.Spec PyProof.Rows L2
end Pg
namespace Pg
open PySem PySem.Spec PyProof.Rows L2
end Pg
set_option exponentiation.threshold 2000
/-! Pg80: looks of led heaps. -/
namespace Pg
open PySem PySem.Spec PyProof.Rows L2
theorem hl_cv {S : List Pt} (g : ∀ s ∈ S, GP s) (n : S ≠ []) {p : Pt} : Cv (hlS S) p ↔ Cv S p := by
  obtain ⟨T, O⟩ := exists_ord fun s m => (g s m).1
  rw [← hlS_eq (fun s m => (g s m).1) O]
  exact hull_cv g n O
/-! ### lines led to places -/
def hF (a b : Int) (s p : Pt) : Int := (a * s.x + b * s.y) * p.w - (a * p.x + b * p.y) * s.w
/-! ### what is cut to a line -/
end Pg
set_option exponentiation.threshold 2000
/-! Pg81: heaps laid over one another: plates by the places that they have. -/
namespace Pg
open PySem PySem.Spec PyProof.Rows L2
/-! ### many rows -/
/-! ### what is told of a plate -/
def PtV (n : Nat) (R : Pt → Prop) (L : List HR) : Prop := (L = [] ∧ ∀ m : Pt, 0 < m.w → ¬ R m) ∨ ∃ H, L = [(H, 1)] ∧ Laid H ∧ H.length ≤ n ∧ ∀ m : Pt, 0 < m.w → (Cv H m ↔ R m)
theorem PtV.uniq {n n' : Nat} {R R' : Pt → Prop} {L L' : List HR} (h : PtV n R L) (h' : PtV n' R' L') (e : ∀ m : Pt, 0 < m.w → (R m ↔ R' m)) : L = L' := by
  rcases h with ⟨e1, h⟩ | ⟨H, e1, l, _, h⟩ <;> rcases h' with ⟨e2, h'⟩ | ⟨H', e2, l', _, h'⟩
  · rw [e1, e2]
  · obtain ⟨s, ms⟩ := List.exists_mem_of_ne_nil _ l'.x.ne
    have w := (l'.f s ms).pos
    exact (h s w ((e s w).mpr ((h' s w).mp (Cv.mem ms)))).elim
  · obtain ⟨s, ms⟩ := List.exists_mem_of_ne_nil _ l.x.ne
    have w := (l.f s ms).pos
    exact (h' s w ((e s w).mp ((h s w).mp (Cv.mem ms)))).elim
  · rw [e1, e2, l.same l' fun m w => (h m w).trans ((e m w).trans (h' m w).symm)]
theorem PtV.len {n : Nat} {R : Pt → Prop} {L : List HR} (h : PtV n R L) : L.length ≤ 1 := by
  rcases h with ⟨e1, h⟩ | ⟨H, e1, l, ln, h⟩ <;> rw [e1]
  · exact Nat.zero_le _
  · exact Nat.le_refl 1
theorem PtV.all {n : Nat} {R : Pt → Prop} {L : List HR} (h : PtV n R L) : ∀ r ∈ L, Laid r.1 ∧ r.1.length ≤ n ∧ r.2 = 1 := fun r m => by
  rcases h with ⟨e1, h⟩ | ⟨H, e1, l, ln, h⟩
  · rw [e1] at m
    cases m
  · rw [e1] at m
    rw [List.mem_singleton.mp m]
    exact ⟨l, ln, rfl⟩
theorem PtV.one {A : List Pt} (l : Laid A) : PtV A.length (Cv A) [(A, 1)] := .inr ⟨A, rfl, l, Nat.le_refl _, fun _ _ => Iff.rfl⟩
/-! ### what two plates both have -/
/-! ### rows that are laid -/
def LaidR (n : Nat) (rs : List HR) : Prop := ∀ r ∈ rs, Laid r.1 ∧ r.1.length ≤ n
/-! ### sums of weights, plate by plate -/
theorem Le.tail : ∀ {x y : Sl} {a b : Se}, Le (x :: a) (y :: b) → Le a b := fun {x y a b} h => by
  cases x with
  | no => exact h
  | _ => exact h.2
theorem Le.trans : ∀ {a b c : Se}, Le a b → Le b c → Le a c
  | [], [], _, _, h => h
  | [], _ :: _, _, h, _ => (show False from h).elim
  | x :: r, [], _, h, _ => by cases x <;> exact False.elim h
  | _ :: _, y :: r', [], _, h => by cases y <;> exact False.elim h
  | x :: r, y :: r', z :: r'', h1, h2 => by
    have t := Le.trans h1.tail h2.tail
    cases x with
    | no => exact t
    | _ =>
      have e := h1.1
      subst e
      exact ⟨h2.1, t⟩
end Pg
set_option exponentiation.threshold 2000
/-! Pg82: promises of heaps cut and laid over one another, whose plates are laid. -/
namespace Pg
open PySem PySem.Spec PyProof.Rows L2
def ngL (e : Ln) : Ln := ⟨-e.a, -e.b, -e.c⟩
theorem LnOk.neg {e : Ln} (h : LnOk e) : LnOk (ngL e) := ⟨by have := h.nz; show -e.a ≠ 0 ∨ -e.b ≠ 0; omega, by show (-e.a).natAbs < _; rw [Int.natAbs_neg]; exact h.ba, by show (-e.b).natAbs < _; rw [Int.natAbs_neg]; exact h.bb, by show (-e.c).natAbs < _; rw [Int.natAbs_neg]; exact h.bc⟩
theorem ev_ng (e : Ln) (m : Pt) : ev (ngL e) m = - ev e m := dpt_neg ..
end Pg
set_option exponentiation.threshold 2000
/-! Pg83: led heaps over one another; a heap over a plate that has all; over a point. -/
namespace Pg
open PySem PySem.Spec PyProof.Rows L2
theorem plate_same {H T : List Pt} (P : PlateH H) (f : ∀ s ∈ H, FP s) (P' : PlateH T) (f' : ∀ s ∈ T, FP s) (e : ∀ m : Pt, 0 < m.w → (Cv H m ↔ Cv T m)) : H = T := by
  obtain ⟨U, O⟩ := exists_ord f
  obtain ⟨V, O'⟩ := exists_ord f'
  rw [← P.idem O, ← P'.idem O']
  exact hull_same O O' f f' (fun s ms => (e s (f s ms).w).mp (Cv.mem ms)) fun s ms => (e s (f' s ms).w).mpr (Cv.mem ms)
def PtW (R : Pt → Prop) (L : List HR) : Prop := (L = [] ∧ ∀ m : Pt, 0 < m.w → ¬ R m) ∨ ∃ H, L = [(H, 1)] ∧ PlateH H ∧ (∀ s ∈ H, FP s) ∧ ∀ m : Pt, 0 < m.w → (Cv H m ↔ R m)
theorem PtW.uniq {R R' : Pt → Prop} {L L' : List HR} (h : PtW R L) (h' : PtW R' L') (e : ∀ m : Pt, 0 < m.w → (R m ↔ R' m)) : L = L' := by
  rcases h with ⟨e1, h⟩ | ⟨H, e1, P, f, h⟩ <;> rcases h' with ⟨e2, h'⟩ | ⟨H', e2, P', f', h'⟩
  · rw [e1, e2]
  · obtain ⟨s, ms⟩ := List.exists_mem_of_ne_nil _ P'.ne
    have w := (f' s ms).pos
    exact (h s w ((e s w).mpr ((h' s w).mp (Cv.mem ms)))).elim
  · obtain ⟨s, ms⟩ := List.exists_mem_of_ne_nil _ P.ne
    have w := (f s ms).pos
    exact (h' s w ((e s w).mp ((h s w).mp (Cv.mem ms)))).elim
  · rw [e1, e2, plate_same P f P' f' fun m w => (h m w).trans ((e m w).trans (h' m w).symm)]
/-! ### maps that are one to one -/
/-! ### weights of what is laid over -/
end Pg
set_option exponentiation.threshold 2000
/-! Pg84: plates split at lines; rows with the same look otherwise told. -/
namespace Pg
open PySem PySem.Spec PyProof.Rows L2
section
variable {K : PySem.W.Frag} {F : Fx} {δ : Se} {P : Po} {i : Nat} {ta te : TE}
end
/-! ### faces -/
theorem Cv.face {L : List Pt} {q : Pt} {a b c : Int} (h : Cv L q) (pos : ∀ s ∈ L, 0 ≤ dpt a b c s) (z : dpt a b c q = 0) : Cv (L.filter fun s => decide (dpt a b c s = 0)) q := fun u v t hz => by
  obtain ⟨B, B0, hB⟩ := bound_all (fun s => -(u * s.x + v * s.y + t * s.w)) L
  have k := h (u + B * a) (v + B * b) (t - B * c) fun s m => by
    have e : (u + B * a) * s.x + (v + B * b) * s.y + (t - B * c) * s.w = (u * s.x + v * s.y + t * s.w) + B * dpt a b c s := by
      unfold dpt
      grind
    rw [e]
    have p := pos s m
    by_cases d : dpt a b c s = 0
    · rw [d, Int.mul_zero, Int.add_zero]
      exact hz s (List.mem_filter.mpr ⟨m, decide_eq_true d⟩)
    · have l : -(u * s.x + v * s.y + t * s.w) < B := hB s m
      have := Int.mul_le_mul_of_nonneg_left (show (1 : Int) ≤ dpt a b c s by omega) (Int.le_of_lt B0)
      omega
  have e : (u + B * a) * q.x + (v + B * b) * q.y + (t - B * c) * q.w = (u * q.x + v * q.y + t * q.w) + B * dpt a b c q := by
    unfold dpt
    grind
  rw [e, z, Int.mul_zero, Int.add_zero] at k
  exact k
theorem Cv.ev0 {L : List Pt} {q : Pt} {a b c : Int} (h : Cv L q) (z : ∀ s ∈ L, 0 ≤ dpt a b c s) : 0 ≤ dpt a b c q := by
  have k := h a b (-c) fun s m => by
    have := z s m
    unfold dpt at this
    have e : a * s.x + b * s.y + -c * s.w = a * s.x + b * s.y - c * s.w := by grind
    omega
  have e : a * q.x + b * q.y + -c * q.w = a * q.x + b * q.y - c * q.w := by grind
  unfold dpt
  omega
theorem Cv.evz {L : List Pt} {q : Pt} {a b c : Int} (h : Cv L q) (z : ∀ s ∈ L, dpt a b c s = 0) : dpt a b c q = 0 := by
  have h1 := h.ev0 (a := a) (b := b) (c := c) fun s m => by rw [z s m]; exact Int.le_refl 0
  have h2 := h.ev0 (a := -a) (b := -b) (c := -c) fun s m => by rw [dpt_neg, z s m]; decide
  rw [dpt_neg] at h2
  omega
/-- places of both cuts that lie on the line -/
def lineS (e : Ln) (A : List Pt) : List Pt := (cutS A e.a e.b e.c ++ cutS A (-e.a) (-e.b) (-e.c)).filter fun s => decide (ev e s = 0)
theorem line_cv {A : List Pt} (l : Laid A) {e : Ln} {q : Pt} (w : 0 < q.w) : Cv (lineS e A) q ↔ Cv A q ∧ ev e q = 0 := by
  constructor
  · intro c
    refine ⟨c.trans fun s m => ?_, c.evz fun s m => of_decide_eq_true (List.mem_filter.mp m).2⟩
    rcases List.mem_append.mp (List.mem_filter.mp m).1 with z | z
    · exact ((cut_cv l.x l.f).mp (Cv.mem z)).1
    · exact ((cut_cv l.x l.f).mp (Cv.mem z)).1
  · rintro ⟨c, z⟩
    have k := (cut_cv l.x l.f (a := e.a) (b := e.b) (c := e.c)).mpr ⟨c, by rw [show dpt e.a e.b e.c q = 0 from z]; exact Int.le_refl 0⟩
    refine (k.face (a := e.a) (b := e.b) (c := e.c) (fun s m => ((cut_cv l.x l.f).mp (Cv.mem m)).2) z).mono fun s m => ?_
    obtain ⟨m, d⟩ := List.mem_filter.mp m
    exact List.mem_filter.mpr ⟨List.mem_append_left _ m, d⟩
/-- a plate split at a line: both sides, less the line -/
noncomputable def splitR (e : Ln) (A : List Pt) : List HR :=
  if cutS A e.a e.b e.c = [] ∨ cutS A (-e.a) (-e.b) (-e.c) = [] then [(A, 1)] else [(hlS (cutS A e.a e.b e.c), 1), (hlS (cutS A (-e.a) (-e.b) (-e.c)), 1), (hlS (lineS e A), -1)]
structure SplitP (e : Ln) (A : List Pt) : Prop where
  l1 : Laid (hlS (cutS A e.a e.b e.c))
  l2 : Laid (hlS (cutS A (-e.a) (-e.b) (-e.c)))
  l3 : Laid (hlS (lineS e A))
  n1 : (hlS (cutS A e.a e.b e.c)).length ≤ A.length + 2
  n2 : (hlS (cutS A (-e.a) (-e.b) (-e.c))).length ≤ A.length + 2
  n3 : (hlS (lineS e A)).length ≤ 2 * A.length + 4
  c1 : ∀ m : Pt, 0 < m.w → (Cv (hlS (cutS A e.a e.b e.c)) m ↔ Cv A m ∧ 0 ≤ ev e m)
  c2 : ∀ m : Pt, 0 < m.w → (Cv (hlS (cutS A (-e.a) (-e.b) (-e.c))) m ↔ Cv A m ∧ ev e m ≤ 0)
  c3 : ∀ m : Pt, 0 < m.w → (Cv (hlS (lineS e A)) m ↔ Cv A m ∧ ev e m = 0)
theorem split_ok {A : List Pt} (l : Laid A) {e : Ln} (ok : LnOk e) (h1 : cutS A e.a e.b e.c ≠ []) (h2 : cutS A (-e.a) (-e.b) (-e.c) ≠ []) : SplitP e A := by
  have g1 : ∀ s ∈ cutS A e.a e.b e.c, GP s := fun s ms => (l.pts ok (Lik.refl e) s ms).gp (by decide) (by decide)
  have g2 : ∀ s ∈ cutS A (-e.a) (-e.b) (-e.c), GP s := fun s ms => (l.pts ok.neg (Lik.refl (ngL e)) s ms).gp (by decide) (by decide)
  have g3 : ∀ s ∈ lineS e A, GP s := fun s m => (List.mem_append.mp (List.mem_filter.mp m).1).elim (g1 s) (g2 s)
  obtain ⟨T1, O1⟩ := exists_ord fun s m => (g1 s m).1
  obtain ⟨T2, O2⟩ := exists_ord fun s m => (g2 s m).1
  obtain ⟨a1, a2, a3⟩ := l.cut ok (Lik.refl e) h1 O1
  obtain ⟨b1, b2, b3⟩ := l.cut (e := ngL e) ok.neg (Lik.refl (ngL e)) h2 O2
  rw [hlS_eq (fun s m => (g1 s m).1) O1] at a1 a2 a3
  rw [hlS_eq (fun s m => (g2 s m).1) O2] at b1 b2 b3
  have c2 : ∀ m : Pt, 0 < m.w → (Cv (hlS (cutS A (-e.a) (-e.b) (-e.c))) m ↔ Cv A m ∧ ev e m ≤ 0) := fun m w => by
    rw [b3 m w, ev_ng]
    exact and_congr Iff.rfl (by omega)
  have lx := cutS_len2 l.x l.f e.a e.b e.c
  have ly := cutS_len2 l.x l.f (-e.a) (-e.b) (-e.c)
  have lz : (lineS e A).length ≤ 2 * A.length + 4 := by
    have := List.length_filter_le (fun s => decide (ev e s = 0)) (cutS A e.a e.b e.c ++ cutS A (-e.a) (-e.b) (-e.c))
    rw [List.length_append] at this
    unfold lineS
    omega
  -- the line is not empty
  have n3 : lineS e A ≠ [] := fun z => by
    obtain ⟨p, mp⟩ := List.exists_mem_of_ne_nil _ h1
    obtain ⟨q, mq⟩ := List.exists_mem_of_ne_nil _ h2
    obtain ⟨cp, dp⟩ := (cut_cv l.x l.f).mp (Cv.mem mp)
    obtain ⟨cq, dq⟩ := (cut_cv l.x l.f).mp (Cv.mem mq)
    rw [dpt_neg] at dq
    have wp := (g1 p mp).1.pos
    have wq := (g2 q mq).1.pos
    have fin : ∀ m : Pt, 0 < m.w → Cv A m → ev e m = 0 → False := fun m wm cm dm => by
      have := (line_cv l (e := e) wm).mpr ⟨cm, dm⟩
      rw [z] at this
      exact Cv.nil wm this
    rcases Int.lt_or_le 0 (dpt e.a e.b e.c p) with d | d
    · refine fin ⟨dpt e.a e.b e.c p * q.x - dpt e.a e.b e.c q * p.x, dpt e.a e.b e.c p * q.y - dpt e.a e.b e.c q * p.y, dpt e.a e.b e.c p * q.w - dpt e.a e.b e.c q * p.w⟩ ?_ (fun u v t zz => ?_) ?_
      · have a1 := Int.mul_pos d wq
        have a2 := Int.mul_nonneg (show 0 ≤ - dpt e.a e.b e.c q by omega) (Int.le_of_lt wp)
        rw [Int.neg_mul] at a2
        show 0 < dpt e.a e.b e.c p * q.w - dpt e.a e.b e.c q * p.w
        omega
      · have a1 := Int.mul_nonneg (Int.le_of_lt d) (cq u v t zz)
        have a2 := Int.mul_nonneg (show 0 ≤ - dpt e.a e.b e.c q by omega) (cp u v t zz)
        have e : u * (dpt e.a e.b e.c p * q.x - dpt e.a e.b e.c q * p.x) + v * (dpt e.a e.b e.c p * q.y - dpt e.a e.b e.c q * p.y) + t * (dpt e.a e.b e.c p * q.w - dpt e.a e.b e.c q * p.w) = dpt e.a e.b e.c p * (u * q.x + v * q.y + t * q.w) + - dpt e.a e.b e.c q * (u * p.x + v * p.y + t * p.w) := by grind
        show 0 ≤ u * (dpt _ _ _ p * q.x - dpt _ _ _ q * p.x) + v * (dpt _ _ _ p * q.y - dpt _ _ _ q * p.y) + t * (dpt _ _ _ p * q.w - dpt _ _ _ q * p.w)
        rw [e]
        omega
      · show e.a * (dpt e.a e.b e.c p * q.x - dpt e.a e.b e.c q * p.x) + e.b * (dpt e.a e.b e.c p * q.y - dpt e.a e.b e.c q * p.y) - e.c * (dpt e.a e.b e.c p * q.w - dpt e.a e.b e.c q * p.w) = 0
        unfold dpt
        grind
    · exact fin p wp cp (by show dpt e.a e.b e.c p = 0; omega)
  obtain ⟨P3, m3, l3⟩ := hlS_plate g3 n3
  have c3 : ∀ m : Pt, 0 < m.w → (Cv (hlS (lineS e A)) m ↔ Cv A m ∧ ev e m = 0) := fun m w => (hl_cv g3 n3).trans (line_cv l w)
  refine ⟨a1, b1, ⟨P3, fun s ms => (g3 s (m3 s ms)).1, ?_⟩, a2, b2, by omega, a3, c2, c3⟩
  obtain ⟨L, okL, hL⟩ := l.l
  refine ⟨e :: ngL e :: L, fun x m => ?_, fun m w => ?_⟩
  · rcases List.mem_cons.mp m with z | m
    · exact z ▸ ok
    · rcases List.mem_cons.mp m with z | m
      · exact z ▸ ok.neg
      · exact okL x m
  · rw [c3 m w, hL m w]
    constructor
    · rintro ⟨c, z⟩ x mx
      rcases List.mem_cons.mp mx with h | mx
      · rw [h, z]
        exact Int.le_refl 0
      · rcases List.mem_cons.mp mx with h | mx
        · rw [h, ev_ng, z]
          decide
        · exact c x mx
    · intro z
      have z1 := z e List.mem_cons_self
      have z2 := z (ngL e) (List.mem_cons_of_mem _ List.mem_cons_self)
      rw [ev_ng] at z2
      exact ⟨fun x mx => z x (List.mem_cons_of_mem _ (List.mem_cons_of_mem _ mx)), by omega⟩
/-! ### what counts plates by their places -/
end Pg
namespace Pg
open PySem PySem.Spec PyProof.Rows L2
/-! ### rows told otherwise -/
inductive OwS : List HR → List HR → Prop
  | nil : OwS [] []
  | keep {rs ys : List HR} {r : HR} : OwS rs ys → OwS (rs ++ [r]) (ys ++ [r])
  | split {rs ys : List HR} {r : HR} {e : Ln} : LnOk e → OwS rs ys → OwS (rs ++ [r]) (ys ++ (splitR e r.1).map fun q => (q.1, q.2 * r.2))
/-- what counts a split plate as its parts -/
def Val (f : List Pt → Int) : Prop := ∀ (A : List Pt) (e : Ln), Laid A → LnOk e → SplitP e A → f A = f (hlS (cutS A e.a e.b e.c)) + f (hlS (cutS A (-e.a) (-e.b) (-e.c))) + f (hlS (lineS e A)) * -1
theorem split_or {A : List Pt} (l : Laid A) {e : Ln} (ok : LnOk e) : splitR e A = [(A, 1)] ∨ (SplitP e A ∧ splitR e A = [(hlS (cutS A e.a e.b e.c), 1), (hlS (cutS A (-e.a) (-e.b) (-e.c)), 1), (hlS (lineS e A), -1)]) := by
  unfold splitR
  by_cases z : cutS A e.a e.b e.c = [] ∨ cutS A (-e.a) (-e.b) (-e.c) = []
  · exact .inl (if_pos z)
  · exact .inr ⟨split_ok l ok (fun y => z (.inl y)) (fun y => z (.inr y)), if_neg z⟩
theorem wsum_scale (f : List Pt → Int) (z : Int) : ∀ L : List HR, wsum f (L.map fun q => (q.1, q.2 * z)) = z * wsum f L
  | [] => (Int.mul_zero z).symm
  | q :: L => by
    show q.2 * z * f q.1 + wsum f (L.map fun q => (q.1, q.2 * z)) = z * (q.2 * f q.1 + wsum f L)
    rw [wsum_scale f z L]
    grind
theorem val_row {f : List Pt → Int} (v : Val f) {A : List Pt} (l : Laid A) {e : Ln} (ok : LnOk e) : wsum f (splitR e A) = f A := by
  rcases split_or l ok with h | ⟨S, h⟩
  · rw [h]
    show 1 * f A + 0 = f A
    omega
  · rw [h, v A e l ok S]
    show 1 * f (hlS (cutS A e.a e.b e.c)) + (1 * f (hlS (cutS A (-e.a) (-e.b) (-e.c))) + (-1 * f (hlS (lineS e A)) + 0)) = _
    omega
theorem OwS.wsum {f : List Pt → Int} (v : Val f) {n : Nat} {rs ys : List HR} (h : OwS rs ys) : LaidR n rs → Pg.wsum f ys = Pg.wsum f rs := by
  induction h with
  | nil => exact fun _ => rfl
  | keep h ih =>
    intro l
    rw [wsum_append, wsum_append, ih fun q m => l q (List.mem_append_left _ m)]
  | @split rs ys r e ok h ih =>
    intro l
    have lr := (l r (List.mem_append_right _ List.mem_cons_self)).1
    rw [wsum_append, wsum_append, ih fun q m => l q (List.mem_append_left _ m), wsum_scale, val_row v lr ok]
    show _ + r.2 * f r.1 = _ + (r.2 * f r.1 + 0)
    omega
theorem OwS.laid {n : Nat} {rs ys : List HR} (h : OwS rs ys) : LaidR n rs → LaidR (2 * n + 4) ys := by
  induction h with
  | nil => exact fun _ q m => (by cases m)
  | keep h ih =>
    intro l q m
    rcases List.mem_append.mp m with m | m
    · exact ih (fun q m => l q (List.mem_append_left _ m)) q m
    · have := l q (List.mem_append_right _ m)
      exact ⟨this.1, by omega⟩
  | @split rs ys r e ok h ih =>
    intro l q m
    have lr := l r (List.mem_append_right _ List.mem_cons_self)
    rcases List.mem_append.mp m with m | m
    · exact ih (fun q m => l q (List.mem_append_left _ m)) q m
    · obtain ⟨p, mp, rfl⟩ := List.mem_map.mp m
      rcases split_or lr.1 ok with h | ⟨S, h⟩
      · rw [h] at mp
        rw [List.mem_singleton.mp mp]
        exact ⟨lr.1, by show r.1.length ≤ _; omega⟩
      · rw [h] at mp
        have a := S.n1
        have b := S.n2
        have c := S.n3
        simp only [List.mem_cons, List.not_mem_nil, or_false] at mp
        rcases mp with rfl | rfl | rfl
        · exact ⟨S.l1, by show (hlS _).length ≤ _; omega⟩
        · exact ⟨S.l2, by show (hlS _).length ≤ _; omega⟩
        · exact ⟨S.l3, by show (hlS _).length ≤ _; omega⟩
theorem split_len (e : Ln) (A : List Pt) : (splitR e A).length ≤ 3 := by
  unfold splitR
  split
  · exact Nat.le_add_left 1 2
  · exact Nat.le_refl 3
theorem OwS.len {rs ys : List HR} (h : OwS rs ys) : ys.length ≤ 3 * rs.length := by
  induction h with
  | nil => exact Nat.le_refl _
  | keep h ih =>
    rw [List.length_append, List.length_append]
    show _ + 1 ≤ 3 * (_ + 1)
    omega
  | @split rs ys r e ok h ih =>
    have := split_len e r.1
    rw [List.length_append, List.length_append, List.length_map]
    show _ + _ ≤ 3 * (_ + 1)
    omega
theorem OwS.w {B : Nat} {rs ys : List HR} (h : OwS rs ys) : (∀ r ∈ rs, r.2.natAbs ≤ B) → ∀ q ∈ ys, q.2.natAbs ≤ B := by
  induction h with
  | nil => exact fun _ q m => (by cases m)
  | keep h ih =>
    intro l q m
    rcases List.mem_append.mp m with m | m
    · exact ih (fun q m => l q (List.mem_append_left _ m)) q m
    · exact l q (List.mem_append_right _ m)
  | @split rs ys r e ok h ih =>
    intro l q m
    have lr := l r (List.mem_append_right _ List.mem_cons_self)
    rcases List.mem_append.mp m with m | m
    · exact ih (fun q m => l q (List.mem_append_left _ m)) q m
    · obtain ⟨p, mp, rfl⟩ := List.mem_map.mp m
      unfold splitR at mp
      have one : p.2 = 1 ∨ p.2 = -1 := by
        split at mp
        · rw [List.mem_singleton.mp mp]
          exact .inl rfl
        · simp only [List.mem_cons, List.not_mem_nil, or_false] at mp
          rcases mp with rfl | rfl | rfl
          · exact .inl rfl
          · exact .inl rfl
          · exact .inr rfl
      show (p.2 * r.2).natAbs ≤ B
      rcases one with z | z <;> rw [z]
      · rw [Int.one_mul]
        exact lr
      · rw [show -1 * r.2 = -r.2 by omega, Int.natAbs_neg]
        exact lr
theorem wsum_perm {f : List Pt → Int} {xs ys : List HR} (p : xs.Perm ys) : wsum f xs = wsum f ys := by
  induction p with
  | nil => rfl
  | cons r _ ih =>
    show r.2 * f r.1 + wsum f _ = r.2 * f r.1 + wsum f _
    rw [ih]
  | swap a b l =>
    show b.2 * f b.1 + (a.2 * f a.1 + wsum f l) = a.2 * f a.1 + (b.2 * f b.1 + wsum f l)
    omega
  | trans _ _ h1 h2 => exact h1.trans h2
/-- rows told otherwise, in some order -/
structure OwP (rs ys : List HR) : Prop where
  ex : ∃ xs, OwS rs xs ∧ ys.Perm xs
theorem OwP.wsum {f : List Pt → Int} (v : Val f) {n : Nat} {rs ys : List HR} (h : OwP rs ys) (l : LaidR n rs) : Pg.wsum f ys = Pg.wsum f rs := by
  obtain ⟨xs, o, p⟩ := h.ex
  exact (wsum_perm p).trans (o.wsum v l)
theorem OwP.len {rs ys : List HR} (h : OwP rs ys) : ys.length ≤ 3 * rs.length := by
  obtain ⟨xs, o, p⟩ := h.ex
  rw [p.length_eq]
  exact o.len
theorem OwP.w {B : Nat} {rs ys : List HR} (h : OwP rs ys) (l : ∀ r ∈ rs, r.2.natAbs ≤ B) : ∀ q ∈ ys, q.2.natAbs ≤ B := by
  obtain ⟨xs, o, p⟩ := h.ex
  exact fun q m => o.w l q (p.mem_iff.mp m)
end Pg
namespace Pg
open PySem PySem.Spec PyProof.Rows L2
/-! ### a plate's inside, told by rows (drawn plates) -/
end Pg
set_option exponentiation.threshold 2000
/-! Pg85: list(dict), what is walked is a list, a tuple or a dict; fractions ascending. -/
namespace Pg
open PySem PySem.Spec PyProof.Rows L2
theorem paired_of {α β : Type} {F : α → β → Prop} : ∀ {xs : List α} {ys : List β}, xs.length = ys.length → (∀ (i : Nat) (x : α) (y : β), xs[i]? = some x → ys[i]? = some y → F x y) → Paired F xs ys
  | [], [], _, _ => .nil
  | [], _ :: _, h, _ => by cases h
  | _ :: _, [], h, _ => by cases h
  | x :: xs, y :: ys, h, f => .cons (f 0 x y rfl rfl) (paired_of (by simpa using h) fun i a b e1 e2 => f (i + 1) a b e1 e2)
/-! ### list(d), d a dict with tuples as keys -/
def rListX : List V → Hp → VK → Prop := fun xs H Q => ∃ D o es, xs = [.ref D] ∧ H D = some (KeyO D o) ∧ OEnt D o es ∧ ∀ l, H l = none → Q (.ref l) (upd H l (.lst (es.map fun e => V.ref e.2.1)))
theorem cr_listX {X : Cx} (hc : X.calm = true) : CallR X (.type "list") rListX := by
  intro pins s σ H xs us Q I r h
  obtain ⟨D, o, es, rfl, hd, oe, q⟩ := h
  obtain ⟨u, rfl, rx⟩ := vals1 r
  obtain rfl : u = Value.ref D := rx
  obtain ⟨hgd, _⟩ := I.hok D _ hd
  obtain ⟨as, ep, xd, hdt, sz, ns, z, en⟩ := oe.raw
  have hm : s.heap.DictRaw D as ep := ⟨o, hgd, xd, hdt⟩
  refine PySem.W.kdl_call (KdlSrc.rawDict ns) (I.ok.hd hc) hm (by omega) fun h' tk acc c' hk hS hacc => ?_
  have hv : Vals (es.map fun e => V.ref e.2.1) acc.toList := by
    refine paired_of (by rw [List.length_map, Array.length_toList]; exact sz.symm.trans hacc.1.symm) fun i x y e1 e2 => ?_
    rw [Array.getElem?_toList] at e2
    obtain ⟨hi, rfl⟩ := hacc.2 i y e2
    obtain ⟨e, g1, g2, _⟩ := en i hi
    rw [List.getElem?_map, g1] at e1
    cases e1
    rw [g2]
    rfl
  have he : h'.get? s.heap.objs.size = some { cls := .type "list", dict := none, data := .seq acc.toList.toArray c', slots := #[] } := by
    rw [Array.toArray_toList]
    exact hS
  exact ⟨.ref s.heap.objs.size, _, I.laid (t' := tk) hk (Nat.le_refl _) (show ObjOk X.prog X.w _ h' _ (.lst (es.map fun e => V.ref e.2.1)) from ⟨by rw [List.length_map]; exact z, acc.toList, c', hv, he⟩), rfl, q _ (I.hok.fresh (Nat.le_refl _))⟩
section
variable {K : PySem.W.Frag} {F : Fx} {δ : Se} {av : Addr → Prop} {H : Hp}
theorem Dxs.keys : ∀ {es : Ents} {kvs : List (PyData × PyData)}, Dxs av K H es kvs → Dts av K H (es.map fun e => V.ref e.2.1) (kvs.map (·.1))
  | _, _, .nil => .nil
  | _, _, .cons a _ _ r => .cons a r.keys
theorem cd_listX : CaD K F rListX (fun ds P => ∃ kvs, ds = [.dict kvs] ∧ TK kvs ∧ P (.list (kvs.map (·.1)))) :=
  ⟨fun O H σ δ vs ds P Q S t ⟨kvs, e, tk, p⟩ q => by
    subst e
    obtain ⟨v, rfl, h⟩ := dts_one t
    obtain ⟨D, o, es, rfl, _, hp, oe, dx⟩ := h.dictX tk
    refine ⟨D, o, es, rfl, hp, oe, fun l np => ?_⟩
    exact q _ _ _ (.new np) (S.new np) (.lst (.of (S.fresh np) upd_same) (dx.keys.stp ((Kp.new np).stp S.bs.ok))) p⟩
end
/-! ### what is walked is a list, a tuple or a dict -/
def iLTX (K : PySem.W.Frag) (t : TE) : TI := fun σ H R => t σ H fun x H1 => (∃ p xs, x = .ref p ∧ SqL K H1 p xs ∧ R (Itl K p) H1) ∨ (∃ p xs, x = .ref p ∧ SqT K H1 p xs ∧ R (Itt K p) H1) ∨ ∃ D o es, x = .ref D ∧ H1 D = some (KeyO D o) ∧ OEnt D o es ∧ R (ItX D o es) H1
theorem pi_ltx {X : Cx} {tg e : Expr} {t : TE} (he : PE X e t) : PI X tg e (iLTX X.K t) := by
  refine ⟨fun pins s σ H R I h => ?_⟩
  refine thn (he.run pins s σ H _ I h) fun u s1 ⟨x, H1, I1, rx, q⟩ => ?_
  rcases q with ⟨p, xs, rfl, hs, q⟩ | ⟨p, xs, rfl, hs, q⟩ | ⟨D, o, es, ex, hd, oe, q⟩
  · cases rx
    obtain ⟨its, rv, z, hz⟩ := I1.list hs
    exact wpAny_pyIter_list z.isList (pi_one (tk := s1.toks) I1 _ (turn_list p _) ⟨_, Heap.get?_push_size _ rfl, rfl, rfl⟩ q)
  · cases rx
    obtain ⟨its, rv, z, hz⟩ := I1.tuple hs
    exact wpAny_pyIter_tuple (show s1.heap.IsTuple p its.toArray from z) (pi_one (tk := s1.toks) I1 _ (turn_tuple p _) ⟨_, Heap.get?_push_size _ rfl, rfl, rfl⟩ q)
  · subst ex
    obtain rfl : u = Value.ref D := rx
    obtain ⟨hgd, _⟩ := I1.hok D _ hd
    obtain ⟨as, ep, xd, hdt, sz, ns, _, en⟩ := oe.raw
    exact wpAny_pyIter_dict_raw ns ⟨o, hgd, xd, hdt⟩ (pi_one (tk := s1.toks) I1 _ (turn_keysX _ hdt xd sz en) ⟨_, Heap.get?_push_size _ rfl, rfl, rfl⟩ q)
section
variable {K : PySem.W.Frag} {F : Fx} {δ : Se}
theorem w_ltx {tl : TE} : WiD K F δ (iLTX K tl) (fun M => EV K F δ tl fun d => (∃ ds, (d = .list ds ∨ d = .tuple ds) ∧ M ds) ∨ ∃ kvs, d = .dict kvs ∧ TK kvs ∧ M (kvs.map (·.1))) :=
  ⟨fun M M' m h => h.mono fun d z => z.imp (fun ⟨ds, e, z⟩ => ⟨ds, e, m ds z⟩) fun ⟨kvs, e, t, z⟩ => ⟨kvs, e, t, m _ z⟩, fun O H σ M R S h k => h O H σ S _ fun H1 v d k1 S1 t1 z => by
    rcases z with ⟨ds, e | e, m⟩ | ⟨kvs, e, tk, m⟩
    · subst e
      cases t1 with
      | lst s t =>
        refine .inl ⟨_, _, rfl, s.sq, k H1 _ ds k1 S1 m fun O2 H2 i s2 fr => ?_⟩
        have q := s.keep (av' := F.cur O2) (H' := H2) fun c o e => s2 _ o c e
        have t2 := t.stp s2
        refine ⟨fun hi => ?_, fun hi => ⟨_, q.sq, by rw [t.length]; exact hi⟩⟩
        have hv := List.getElem?_eq_getElem (show i < _ by rw [t.length]; exact hi)
        refine ⟨⟨_, _, q.sq, hv⟩, fun x H3 y => ?_⟩
        obtain ⟨y1, y2⟩ := y
        subst y1
        obtain ⟨d, e1, t3⟩ := t2.get (y2 _ q.sq)
        exact ⟨fun _ _ h => h, d, e1, t3⟩
    · subst e
      cases t1 with
      | tup s t =>
        refine .inr (.inl ⟨_, _, rfl, s.sq, k H1 _ ds k1 S1 m fun O2 H2 i s2 fr => ?_⟩)
        have q := s.keep (av' := F.cur O2) (H' := H2) fun c o e => s2 _ o c e
        have t2 := t.stp s2
        refine ⟨fun hi => ?_, fun hi => ⟨_, q.sq, by rw [t.length]; exact hi⟩⟩
        have hv := List.getElem?_eq_getElem (show i < _ by rw [t.length]; exact hi)
        refine ⟨⟨_, _, q.sq, hv⟩, fun x H3 y => ?_⟩
        obtain ⟨y1, y2⟩ := y
        subst y1
        obtain ⟨d, e1, t3⟩ := t2.get (y2 _ q.sq)
        exact ⟨fun _ _ h => h, d, e1, t3⟩
    · subst e
      obtain ⟨D, o, es, rfl, c0, hp, oe, dx⟩ := t1.dictX tk
      refine .inr (.inr ⟨D, o, es, rfl, hp, oe, k H1 _ _ k1 S1 m fun O2 H2 i s2 fr => ?_⟩)
      have hp2 := (s2 D _ c0 hp).2
      have dx2 := dx.stp s2
      rw [List.length_map, ← dx.length]
      refine ⟨fun hi => ⟨⟨hp2, hi⟩, fun x H3 ⟨e3, e, he, ex⟩ => ?_⟩, fun hi => ⟨hp2, hi⟩⟩
      subst e3 ex
      obtain ⟨q, hq, tq, _⟩ := dx2.get he
      exact ⟨fun _ _ h => h, q.1, by rw [List.getElem?_map, hq]; rfl, tq⟩⟩
end
/-! ### keys of any kind -/
structure Enc {α : Type} (f : α → PyData) (k : α → NestedKey) : Prop where
  key : ∀ a, KeyD (f a) (k a)
  inj : ∀ a b, k a = k b → a = b
section
variable {α : Type} [DecidableEq α] {f : α → PyData} {k : α → NestedKey} {v : α → PyData}
theorem lookE (E : Enc f k) {q : α} : ∀ {A : List α}, lookD (A.map fun p => (f p, v p)) (k q) = if q ∈ A then some (v q) else none
  | [] => rfl
  | a :: r => by
    rw [List.map_cons, lookD_cons, lookE E]
    show (if keyOf (f a) = some (k q) then some (v a) else if q ∈ r then some (v q) else none) = _
    by_cases z : a = q
    · subst z
      rw [if_pos (E.key a).1, if_pos List.mem_cons_self]
    · rw [if_neg (fun e : keyOf (f a) = some (k q) => z (E.inj _ _ (Option.some.inj ((E.key a).1.symm.trans e))))]
      by_cases m : q ∈ r
      · rw [if_pos m, if_pos (List.mem_cons_of_mem _ m)]
      · rw [if_neg m, if_neg (fun h => (List.mem_cons.mp h).elim (fun e => z e.symm) m)]
def addE (A : List α) (q : α) : List α := if q ∈ A then A else A ++ [q]
theorem putE (E : Enc f k) {q : α} {A : List α} : putO (A.map fun p => (f p, v p)) (f q) (v q) = (addE A q).map fun p => (f p, v p) := by
  have e : putO (A.map fun p => (f p, v p)) (f q) (v q) = putD (A.map fun p => (f p, v p)) (f q) (k q) (v q) := by
    unfold putO
    rw [(E.key q).1]
    rfl
  rw [e]
  unfold putD addE
  rw [lookE E]
  by_cases m : q ∈ A
  · rw [if_pos m, if_pos m, if_pos (show (some (v q)).isSome = true from rfl), List.map_map]
    refine List.map_congr_left fun p _ => ?_
    show (if keyOf (f p) = some (k q) then (f p, v q) else (f p, v p)) = (f p, v p)
    by_cases e : p = q
    · subst e
      split <;> rfl
    · rw [if_neg fun h : keyOf (f p) = some (k q) => e (E.inj _ _ (Option.some.inj ((E.key p).1.symm.trans h)))]
  · rw [if_neg m, if_neg m, if_neg (show ¬ (none : Option PyData).isSome = true by decide), List.map_append]
    rfl
def uniqE (S : List α) : List α := S.foldl addE []
theorem mem_addE {A : List α} {q t : α} : t ∈ addE A q ↔ t ∈ A ∨ t = q := by
  unfold addE
  split
  · rename_i m
    exact ⟨.inl, fun h => h.elim id fun e => by rw [e]; exact m⟩
  · rw [List.mem_append, List.mem_singleton]
theorem nodup_addE {A : List α} {q : α} (h : A.Nodup) : (addE A q).Nodup := by
  unfold addE
  split
  · exact h
  · rename_i m
    refine List.nodup_append.mpr ⟨h, List.nodup_cons.mpr ⟨(fun z => by cases z), List.nodup_nil⟩, fun a ma b mb e => ?_⟩
    rw [List.mem_singleton] at mb
    rw [e, mb] at ma
    exact m ma
theorem foldE : ∀ (S A : List α), A.Nodup → (S.foldl addE A).Nodup ∧ ∀ t, t ∈ S.foldl addE A ↔ t ∈ A ∨ t ∈ S
  | [], A, h => ⟨h, fun t => ⟨.inl, fun z => z.elim id fun y => by cases y⟩⟩
  | q :: r, A, h => by
    obtain ⟨n, m⟩ := foldE r (addE A q) (nodup_addE h)
    refine ⟨n, fun t => ?_⟩
    show t ∈ r.foldl addE (addE A q) ↔ _
    rw [m, mem_addE, List.mem_cons, or_assoc]
theorem nodup_uniqE (S : List α) : (uniqE S).Nodup := (foldE S [] List.nodup_nil).1
theorem mem_uniqE {S : List α} {t : α} : t ∈ uniqE S ↔ t ∈ S := by
  rw [uniqE, (foldE S [] List.nodup_nil).2]
  exact ⟨fun h => h.elim (fun z => by cases z) id, .inr⟩
theorem len_uniqE (S : List α) : (uniqE S).length ≤ S.length := nodup_len (nodup_uniqE S) fun t m => mem_uniqE.mp m
theorem dctE {β : Type} (E : Enc f k) {fk fv : PyData → PyData} {h : β → PyData} {c : β → α} (S : List β) (hk : ∀ x ∈ S, fk (h x) = f (c x)) (hv : ∀ x ∈ S, fv (h x) = v (c x)) : dctD fk fv (S.map h) = (uniqE (S.map c)).map fun p => (f p, v p) := by
  have : ∀ (S : List β) (A : List α), (∀ x ∈ S, fk (h x) = f (c x)) → (∀ x ∈ S, fv (h x) = v (c x)) → (S.map h).foldl (fun acc x => putO acc (fk x) (fv x)) (A.map fun p => (f p, v p)) = ((S.map c).foldl addE A).map fun p => (f p, v p) := by
    intro S
    induction S with
    | nil =>
      intro A _ _
      rfl
    | cons q r ih =>
      intro A hk hv
      rw [List.map_cons, List.foldl_cons, hk q List.mem_cons_self, hv q List.mem_cons_self, putE E, ih _ (fun x m => hk x (List.mem_cons_of_mem _ m)) fun x m => hv x (List.mem_cons_of_mem _ m)]
      rfl
  exact this S [] hk hv
theorem tk_E (E : Enc f k) (A : List α) : TK (A.map fun p => (f p, v p)) := fun q m => by
  obtain ⟨p, _, rfl⟩ := List.mem_map.mp m
  exact (E.key p).2.1
end
/-! ### fractions in order -/
def kR (x : Rat) : NestedKey := .tup [.num x.num, .num (x.den : Int)]
theorem enc_R : Enc rD kR := ⟨fun x => ⟨rfl, rfl, by show (max 0 (max 0 0) + 1) ≤ 8; decide⟩, fun a b h => by
  injection h with h
  injection h with h1 h2
  injection h2 with h2 _
  injection h1 with h1
  injection h2 with h2
  exact Rat.ext h1 (by omega)⟩
def gR (M : Int) (x : Rat) : Int := x.num * M.fdiv (x.den : Int)
theorem gR_w {M : Int} {x : Rat} (h : (x.den : Int) ∣ M) : gR M x * x.den = x.num * M := by
  have d := den0 x
  obtain ⟨k, rfl⟩ := h
  have : ((x.den : Int) * k).fdiv x.den = k := Int.mul_fdiv_cancel_left k (by omega)
  unfold gR
  rw [this]
  grind
theorem gR_lt {M : Int} (hM : 0 < M) {x y : Rat} (hx : (x.den : Int) ∣ M) (hy : (y.den : Int) ∣ M) : gR M x < gR M y ↔ x < y := by
  have a := gR_w hx
  have b := gR_w hy
  have dx := den0 x
  have dy := den0 y
  rw [Rat.lt_iff]
  have e : (gR M x - gR M y) * (x.den * y.den) = (x.num * y.den - y.num * x.den) * M := by grind
  have p := Int.mul_pos dx dy
  constructor
  · intro h
    have := Int.mul_neg_of_neg_of_pos (show gR M x - gR M y < 0 by omega) p
    rw [e] at this
    by_cases z : x.num * y.den < y.num * x.den
    · exact z
    · have := Int.mul_nonneg (show 0 ≤ x.num * y.den - y.num * x.den by omega) (Int.le_of_lt hM)
      omega
  · intro h
    have := Int.mul_neg_of_neg_of_pos (show x.num * y.den - y.num * x.den < 0 by omega) hM
    rw [← e] at this
    by_cases z : gR M x < gR M y
    · exact z
    · have := Int.mul_nonneg (show 0 ≤ gR M x - gR M y by omega) (Int.le_of_lt p)
      omega
def leR (M : Int) (x y : Rat) : Bool := decide (gR M x ≤ gR M y)
def sortF (M : Int) (x : Rat) : PyData := .tuple [.int (gR M x), rD x]
theorem eqv_int1 {a b : Int} : PyData.eqv (.int a) (.int b) = decide (a = b) := by
  show (a == b) = _
  by_cases h : a = b
  · rw [h, decide_eq_true rfl, beq_self_eq_true]
  · rw [decide_eq_false h, beq_false_of_ne h]
theorem gR_eq {M : Int} (hM : 0 < M) {x y : Rat} (hx : (x.den : Int) ∣ M) (hy : (y.den : Int) ∣ M) (e : gR M x = gR M y) : x = y := by
  have h1 : ¬ x < y := fun z => by
    have := (gR_lt hM hx hy).mpr z
    omega
  have h2 : ¬ y < x := fun z => by
    have := (gR_lt hM hy hx).mpr z
    omega
  exact Rat.le_antisymm (Rat.not_lt.mp h2) (Rat.not_lt.mp h1)
theorem sortF_le {M : Int} (hM : 0 < M) {x y : Rat} (hx : (x.den : Int) ∣ M) (hy : (y.den : Int) ∣ M) : leR M x y = PySem.W.dataLe false id (sortF M x) (sortF M y) := by
  rw [PySem.W.dataLe_eq]
  show leR M x y = !PySem.W.dataLt (sortF M y) (sortF M x)
  unfold sortF
  rw [PySem.W.dataLt_pair (by simp [PySem.W.alike]) (by simp [rD, PySem.W.alike, PySem.W.alikeAll])]
  rw [eqv_int1]
  by_cases e : gR M y = gR M x
  · have e0 := gR_eq hM hy hx e
    subst e0
    rw [decide_eq_true rfl, if_pos rfl, if_pos (rD_iff.mpr rfl)]
    unfold leR
    exact decide_eq_true (Int.le_refl _)
  · rw [decide_eq_false e, if_neg (by decide)]
    have : PySem.W.dataLt (.int (gR M y)) (.int (gR M x)) = decide (gR M y < gR M x) := PySem.W.dataLt_int _ _
    rw [this]
    unfold leR
    rw [← decide_not]
    refine decide_eq_decide.mpr ?_
    omega
theorem sortedF {M : Int} (hM : 0 < M) {S : List Rat} (d : ∀ x ∈ S, (x.den : Int) ∣ M) : ((uniqE S).map (sortF M)).mergeSort (PySem.W.dataLe false id) = ((uniqE S).mergeSort (leR M)).map (sortF M) := by
  refine (List.map_mergeSort fun a ma b mb => ?_).symm
  exact sortF_le hM (d a (mem_uniqE.mp ma)) (d b (mem_uniqE.mp mb))
theorem sortF_alike (M : Int) (x y : Rat) : PySem.W.alike (sortF M x) (sortF M y) = true := by
  simp [sortF, rD, PySem.W.alike, PySem.W.alikeAll]
theorem rowsF (M : Int) (L : List Rat) : PySem.W.AllAlike (L.map (sortF M)) ∧ PySem.W.Sortable (L.map (sortF M)) ∧ noObA (L.map (sortF M)) = true ∧ ∀ d ∈ L.map (sortF M), d.depth ≤ 32 := by
  refine ⟨PySem.W.AllAlike.of (sortF_alike M), PySem.W.Sortable.tuples fun b => ⟨_, _, rfl⟩, ?_, fun d m => ?_⟩
  · induction L with
    | nil => rfl
    | cons a r ih => exact Bool.and_eq_true_iff.mpr ⟨rfl, ih⟩
  · obtain ⟨p, _, rfl⟩ := List.mem_map.mp m
    exact Nat.le_of_ble_eq_true rfl
theorem ordF {M : Int} (hM : 0 < M) {S : List Rat} (d : ∀ x ∈ S, (x.den : Int) ∣ M) : ((uniqE S).mergeSort (leR M)).Pairwise (· < ·) ∧ ∀ t, t ∈ (uniqE S).mergeSort (leR M) ↔ t ∈ S := by
  have pm := List.mergeSort_perm (uniqE S) (leR M)
  have mem : ∀ t, t ∈ (uniqE S).mergeSort (leR M) ↔ t ∈ S := fun t => by rw [pm.mem_iff, mem_uniqE]
  have nd : ((uniqE S).mergeSort (leR M)).Nodup := pm.nodup_iff.mpr (nodup_uniqE S)
  have so : ((uniqE S).mergeSort (leR M)).Pairwise fun a b => leR M a b = true := by
    refine List.pairwise_mergeSort (fun a b c h1 h2 => ?_) (fun a b => ?_) (uniqE S)
    · exact decide_eq_true (Int.le_trans (of_decide_eq_true h1) (of_decide_eq_true h2))
    · unfold leR
      rw [← Bool.decide_or]
      refine decide_eq_true ?_
      omega
  refine ⟨?_, mem⟩
  have both := List.pairwise_and_iff.mpr ⟨so, nd⟩
  refine List.Pairwise.imp_of_mem (fun {a b} ma mb h => ?_) both
  have da := d a ((mem a).mp ma)
  have db := d b ((mem b).mp mb)
  have le : gR M a ≤ gR M b := of_decide_eq_true h.1
  refine (gR_lt hM da db).mp ?_
  have : gR M a ≠ gR M b := fun e => h.2 (gR_eq hM da db e)
  omega
structure FrS (S : List Rat) (B : Int) : Prop where
  pos : 0 < B
  lt : B.natAbs < 2 ^ 4000
  dvd : ∀ x ∈ S, (x.den : Int) ∣ B
  sm : ∀ x ∈ S, Rk 300 x
def gAscF (ds : List PyData) (P : PyData → Prop) : Prop := ∃ (S : List Rat) (d : PyData) (B : Int), ds = [d] ∧ ((∃ xs, (d = .list xs ∨ d = .tuple xs) ∧ xs = S.map rD) ∨ ∃ kvs, d = .dict kvs ∧ TK kvs ∧ kvs.map (·.1) = S.map rD) ∧ S.length ≤ 100000 ∧ FrS S B ∧
  ∀ T : List Rat, T.Pairwise (· < ·) → (∀ x, x ∈ T ↔ x ∈ S) → P (.list (T.map rD))
def ratOf (d : PyData) : Rat := match d with
  | .tuple [.int a, .int b] => if h : b.natAbs ≠ 0 ∧ Nat.gcd a.natAbs b.natAbs = 1 then ⟨a, b.natAbs, h.1, h.2⟩ else 0
  | _ => 0
theorem ratOf_rD (x : Rat) : ratOf (rD x) = x := by
  show (if h : ((x.den : Int)).natAbs ≠ 0 ∧ Nat.gcd x.num.natAbs ((x.den : Int)).natAbs = 1 then (⟨x.num, ((x.den : Int)).natAbs, h.1, h.2⟩ : Rat) else 0) = x
  rw [dif_pos ⟨by rw [Int.natAbs_natCast]; exact x.den_nz, by rw [Int.natAbs_natCast]; exact x.reduced⟩]
  exact Rat.ext rfl (Int.natAbs_natCast _)
theorem or_ltx {d : PyData} {S : List PyData} {M : List PyData → Prop} (ed : (∃ xs, (d = .list xs ∨ d = .tuple xs) ∧ xs = S) ∨ ∃ kvs, d = .dict kvs ∧ TK kvs ∧ kvs.map (·.1) = S) (h : M S) : (∃ ds, (d = .list ds ∨ d = .tuple ds) ∧ M ds) ∨ ∃ kvs, d = .dict kvs ∧ TK kvs ∧ M (kvs.map (·.1)) :=
  ed.imp (fun ⟨xs, e, ex⟩ => ⟨xs, e, ex ▸ h⟩) fun ⟨kvs, e, tk, ek⟩ => ⟨kvs, e, tk, by rw [ek]; exact h⟩
/-! ### tuples of the top -/
section
variable {K : PySem.W.Frag} {F : Fx} {δ : Se} {P : PyData → Prop} {a : Addr} {i j k : Int}
end
end Pg
set_option exponentiation.threshold 2000
/-! Pg86: directions in round order. -/
namespace Pg
open PySem PySem.Spec PyProof.Rows L2
end Pg
set_option exponentiation.threshold 2000
/-! Pg87: an item of an own list is set; x, y = e, list(..). -/
namespace Pg
open PySem PySem.Spec PyProof.Rows L2
section
variable {K : PySem.W.Frag} {F : Fx} {δ : Se} {R : Po} {i j : Nat} {te tv ty : TE}
theorem Dts.set {H : Hp} {av : Addr → Prop} : ∀ {vs : List V} {ds : List PyData} (n : Nat) {v : V} {d : PyData}, Dts av K H vs ds → Dt av K H v d → Dts av K H (vs.set n v) (ds.set n d)
  | _, _, _, _, _, .nil, _ => .nil
  | _, _, 0, _, _, .cons _ t, b => .cons b t
  | _, _, n + 1, _, _, .cons a t, b => .cons a (Dts.set n t b)
end
end Pg
set_option exponentiation.threshold 2000
/-! Pg88: x, y = {}, {}; [*d], d a dict; steps of stretches as the program makes them. -/
namespace Pg
open PySem PySem.Spec PyProof.Rows L2
section
variable {K : PySem.W.Frag} {F : Fx} {δ : Se} {R : Po} {i j : Nat}
/-- x, y = {}, {}, both own -/
theorem s_ownDD (h : R.N ((δ.set i (.ownd [])).set j (.ownd []))) : SV K F δ (tPar i j (tCons tDNewX (tCons tDNewX tNil))) R := fun O H σ S D n r b c p o np oe => by
  obtain ⟨S2, st⟩ := S.addKey (o := o) np i
  refine fun p2 o2 np2 oe2 => ?_
  obtain ⟨S3, st3⟩ := S2.addKey (o := o2) np2 j
  have pp : p ≠ p2 := fun e => by
    rw [← e, upd_same] at np2
    cases np2
  refine ⟨_, _, rfl, ?_⟩
  exact n _ _ _ _ (st.trans st3) ((S3.slot (i := i) (v := .ref p) (s := .ownd []) ⟨p, o, [], rfl, List.mem_cons_of_mem _ List.mem_cons_self, by rw [upd_ne pp, upd_same], oe, .nil⟩).slot (i := j) (v := .ref p2) (s := .ownd []) ⟨p2, o2, [], rfl, List.mem_cons_self, upd_same, oe2, .nil⟩) h
end
/-! ### [*d], d a dict with tuples as keys -/
def tStarX (te : TE) (t : TA) : TA := fun σ H Q => te σ H fun x H1 => ∃ D o es, x = V.ref D ∧ H1 D = some (KeyO D o) ∧ OEnt D o es ∧ t σ H1 fun ys H2 => Q ((es.map fun e => V.ref e.2.1) ++ ys) H2
theorem pa_starX {X : Cx} {e : Expr} {es : List Expr} {te : TE} {t : TA} {p : Pos} (hc : X.calm = true) (he : PE X e te) (hr : PA X es t) (hs : starEach (.Starred e p :: es) X.env = (true, eval e X.env) :: starEach es X.env := by rfl) : PA X (.Starred e p :: es) (tStarX te t) := by
  refine ⟨fun pos pins s σ H Q I h => ?_⟩
  refine PySem.W.items_star (thn (he.run pins s σ H _ I h) fun v s1 ⟨y, H1, I1, ry, D, o, ks, ey, hd, oe, q⟩ => ?_) hs
  subst ey
  obtain rfl : v = Value.ref D := ry
  obtain ⟨hgd, _⟩ := I1.hok D _ hd
  obtain ⟨as, ep, xd, hdt, sz, ns, z, en⟩ := oe.raw
  have hm : s1.heap.DictRaw D as ep := ⟨o, hgd, xd, hdt⟩
  have hT : s1.TypeIs (.ref D) "dict" := ⟨o, hgd, xd.1⟩
  unfold PySem.W.StarOf notIterableAtAll
  refine wpAny_bind (wpAny_specialOf hT PySem.F.slot_dict_iter.lookup (wpAny_pure ⟨rfl, ?_⟩))
  refine PySem.W.kdu_collect (KdlSrc.rawDict ns) (I1.ok.hd hc) hm (by omega) fun h' tk acc hk hacc => ?_
  have hv : Vals (ks.map fun e => V.ref e.2.1) acc.toList := by
    refine paired_of (by rw [List.length_map, Array.length_toList]; exact sz.symm.trans hacc.1.symm) fun i x y e1 e2 => ?_
    rw [Array.getElem?_toList] at e2
    obtain ⟨hi, rfl⟩ := hacc.2 i y e2
    obtain ⟨e, g1, g2, _⟩ := en i hi
    rw [List.getElem?_map, g1] at e1
    cases e1
    rw [g2]
    rfl
  exact thn (hr.run pos pins _ σ H1 _ (I1.kept (t' := tk) hk) q) fun ws s3 ⟨vs, H3, I3, r3, q3⟩ => ⟨_ ++ vs, H3, I3, hv.append r3, q3⟩
theorem a_starX {K : PySem.W.Frag} {F : Fx} {δ : Se} {te : TE} {t : TA} {P : List PyData → Prop} (h : EV K F δ te fun d => ∃ kvs, d = .dict kvs ∧ TK kvs ∧ EA K F δ t fun ds => P (kvs.map (·.1) ++ ds)) : EA K F δ (tStarX te t) P := fun O H σ S Q q =>
  h O H σ S _ fun H1 v d k1 S1 t1 ⟨kvs, e, tk, h1⟩ => by
    subst e
    obtain ⟨D, o, es, rfl, _, hp, oe, dx⟩ := t1.dictX tk
    exact ⟨D, o, es, rfl, hp, oe, h1 O H1 σ S1 _ fun H2 vs ds k2 S2 t2 p => q H2 _ _ (k1.trans k2) S2 ((dx.keys.stp (k2.stp S.bs.ok)).append t2) p⟩
/-! ### a[lo:hi], a a list or a tuple -/
def rSlLA (K : PySem.W.Frag) : V → Option Int → Option Int → Hp → VK → Prop := fun x lo hi H Q => rSlL K x lo hi H Q ∨ rSlA K x lo hi H Q
theorem sl_lt {X : Cx} {K : PySem.W.Frag} (h : X.K = K) : SlR X (rSlLA K) := by
  subst h
  intro pins s σ H x v vl vu lo hi sl Q I rx hs pl pu q
  rcases q with q | q
  · exact sl_list pins s σ H x v vl vu lo hi sl Q I rx hs pl pu q
  · exact sl_tupA pins s σ H x v vl vu lo hi sl Q I rx hs pl pu q
theorem v_cutLA {K : PySem.W.Frag} {F : Fx} {δ : Se} {te : TE} {tl th : TO} {PD : PyData → Prop} (h : EV K F δ te fun d => ∃ ds, (d = .list ds ∨ d = .tuple ds) ∧ OV K F δ tl fun lo => OV K F δ th fun hi => ∀ e, (e = .list (Pg.cutD ds lo hi) ∨ e = .tuple (Pg.cutD ds lo hi)) → PD e) : EV K F δ (tSl (rSlLA K) te tl th) PD := fun O H σ S Q q =>
  h O H σ S _ fun H1 v d k1 S1 t1 ⟨ds, e, h1⟩ => h1 O H1 σ S1 _ fun H2 lo k2 S2 h2 => h2 O H2 σ S2 _ fun H3 hi k3 S3 p => by
    have t3 := t1.stp ((k2.trans k3).stp S.bs.ok)
    rcases e with e | e
    · subst e
      cases t3 with
      | lst s u =>
        refine .inl ⟨_, _, rfl, s.sq, fun p' np => ?_⟩
        exact q _ _ _ (((k1.trans k2).trans k3).trans (.new np)) (S3.new np) (.lst (.of (S3.fresh np) upd_same) ((dts_cut u).stp ((Kp.new np).stp S.bs.ok))) (p _ (.inl rfl))
    · subst e
      cases t3 with
      | tup s u =>
        refine .inr ⟨_, _, rfl, s.sq, fun w => ?_, fun _ p' np => ?_⟩
        · rw [u.length] at w
          have p := p _ (.inr rfl)
          rw [cut_whole w] at p
          exact q _ _ _ ((k1.trans k2).trans k3) S3 (.tup s u) p
        · exact q _ _ _ (((k1.trans k2).trans k3).trans (.new np)) (S3.new np) (.tup (.of (S3.fresh np) upd_same) ((dts_cut u).stp ((Kp.new np).stp S.bs.ok))) (p _ (.inr rfl))
/-! ### sums by key -/
section
variable {α : Type} [DecidableEq α] {f : α → PyData} {k : α → NestedKey}
theorem putZ (E : Enc f k) {A : List α} {g : α → Int} {q : α} {z : Int} : putD (A.map fun p => (f p, PyData.int (g p))) (f q) (k q) (.int z) = (addE A q).map fun p => (f p, PyData.int (if p = q then z else g p)) := by
  unfold putD addE
  rw [lookE (v := fun p => PyData.int (g p)) E]
  by_cases m : q ∈ A
  · rw [if_pos m, if_pos m, if_pos (show (some (PyData.int (g q))).isSome = true from rfl), List.map_map]
    refine List.map_congr_left fun p _ => ?_
    show (if keyOf (f p) = some (k q) then (f p, PyData.int z) else (f p, PyData.int (g p))) = _
    by_cases e : p = q
    · subst e
      rw [if_pos (E.key p).1, if_pos rfl]
    · rw [if_neg fun h : keyOf (f p) = some (k q) => e (E.inj _ _ (Option.some.inj ((E.key p).1.symm.trans h))), if_neg e]
  · rw [if_neg m, if_neg m, if_neg (show ¬ (none : Option PyData).isSome = true by decide), List.map_append]
    congr 1
    · refine List.map_congr_left fun p mp => ?_
      rw [if_neg fun e : p = q => m (e ▸ mp)]
    · show [(f q, PyData.int z)] = [(f q, PyData.int (if q = q then z else g q))]
      rw [if_pos rfl]
theorem look0 (E : Enc f k) {A : List α} {g : α → Int} {q : α} (z : q ∉ A → g q = 0) : (lookD (A.map fun p => (f p, PyData.int (g p))) (k q)).getD (.int 0) = .int (g q) := by
  rw [lookE (v := fun p => PyData.int (g p)) E]
  by_cases m : q ∈ A
  · rw [if_pos m]
    rfl
  · rw [if_neg m, z m]
    rfl
theorem uniqE_snoc (S : List α) (q : α) : uniqE (S ++ [q]) = addE (uniqE S) q := by
  unfold uniqE
  rw [List.foldl_append]
  rfl
end
/-- the weights of rows by one end of theirs, as a dict -/
def sumEnd (e : Rw → Rat) (rs : List Rw) : List (PyData × PyData) := (uniqE (rs.map e)).map fun x => (rD x, .int (wAt e rs x))
theorem wAt_snoc (e : Rw → Rat) (rs : List Rw) (r : Rw) (h : Rat) : wAt e (rs ++ [r]) h = wAt e rs h + if e r = h then r.n else 0 := by
  unfold wAt
  rw [List.map_append, List.sum_append]
  show _ + ((if e r = h then r.n else 0) + 0) = _
  omega
theorem wAt_none {e : Rw → Rat} {rs : List Rw} {h : Rat} (n : h ∉ uniqE (rs.map e)) : wAt e rs h = 0 := wAt_off fun r m z => n (mem_uniqE.mpr (z ▸ List.mem_map_of_mem m))
theorem look_sumEnd (e : Rw → Rat) (rs : List Rw) (h : Rat) : (lookD (sumEnd e rs) (kR h)).getD (.int 0) = .int (wAt e rs h) := look0 enc_R wAt_none
theorem put_sumEnd (e : Rw → Rat) (rs : List Rw) (r : Rw) : putD (sumEnd e rs) (rD (e r)) (kR (e r)) (.int (wAt e rs (e r) + r.n)) = sumEnd e (rs ++ [r]) := by
  unfold sumEnd
  rw [putZ enc_R, List.map_append, show [r].map e = [e r] from rfl, uniqE_snoc]
  refine List.map_congr_left fun x _ => ?_
  rw [wAt_snoc]
  by_cases z : x = e r
  · rw [if_pos z, if_pos z.symm, z]
  · rw [if_neg z, if_neg fun y => z y.symm, Int.add_zero]
theorem len_sumEnd (e : Rw → Rat) (rs : List Rw) : (sumEnd e rs).length ≤ rs.length := by
  unfold sumEnd
  rw [List.length_map]
  have := len_uniqE (rs.map e)
  rwa [List.length_map] at this
theorem tk_sumEnd (e : Rw → Rat) (rs : List Rw) : TK (sumEnd e rs) := fun q m => by
  obtain ⟨p, _, rfl⟩ := List.mem_map.mp m
  exact (enc_R.key p).2.1
theorem keys_sumEnd (e : Rw → Rat) (rs : List Rw) : (sumEnd e rs).map (·.1) = (uniqE (rs.map e)).map rD := by
  unfold sumEnd
  rw [List.map_map]
  rfl
theorem ahead_end {acc : Int} : ∀ {s : List E3} {i : Nat} {p : E3 × Int}, (aheadE acc s)[i]? = some p → p.2 = endE acc (s.take i)
  | [], i, p, h => by cases h
  | e :: s, 0, p, h => by
    cases h
    rfl
  | e :: s, i + 1, p, h => ahead_end (acc := e.2.2) (s := s) (i := i) h
theorem endE_at {F : Rat → T3} {T : List Rat} (A : T.Pairwise (· < ·)) (c : Crit T F) {i : Nat} {h : Rat} (e : T[i]? = some h) : endE 0 ((T.take i).map (ent F)) = (F h).1 := by
  have es : (T.map (ent F))[i]? = some (ent F h) := by rw [List.getElem?_map, e]; rfl
  have li := (List.getElem?_eq_some_iff.mp es).1
  obtain ⟨p, hp⟩ : ∃ p, (aheadE 0 (T.map (ent F)))[i]? = some p := ⟨_, List.getElem?_eq_getElem (by rw [aheadE_len]; exact li)⟩
  have q1 : p.1 = ent F h := by
    have := congrArg (fun l : List E3 => l[i]?) (aheadE_fst (acc := 0) (s := T.map (ent F)))
    have this : ((aheadE 0 (T.map (ent F))).map (·.1))[i]? = (T.map (ent F))[i]? := this
    rw [List.getElem?_map, hp, es] at this
    exact Option.some.inj this
  have q2 := ahead_end hp
  have q3 := aheadE_look (acc := 0) (ent_asc A) p (List.mem_of_getElem? hp)
  rw [q1] at q3
  have q3 : look3 0 (T.map (ent F)) h = (p.2, (ent F h).2) := q3
  rw [crit_map A c, q2, ← List.map_take] at q3
  rw [q3]
/-! ### promises -/
def gBehLT (ds : List PyData) (P : PyData → Prop) : Prop := ∃ (s : List E3) (d : PyData), ds = [d] ∧ (d = .list (s.map entD) ∨ d = .tuple (s.map entD)) ∧ s.length ≤ 10000 ∧ P (.list ((behL s).map .int))
def gInForm (ds : List PyData) (P : PyData → Prop) : Prop := ∃ s : List E3, ds = [.list (s.map entD)] ∧ s.length ≤ 10000 ∧ P (.tuple ((inF 0 s).map entD))
def gIsStr (ds : List PyData) (P : PyData → Prop) : Prop := ∃ r : Rw, ds = [rwD r] ∧ r.lo ≤ r.hi ∧ Rk 100 r.lo ∧ Rk 100 r.hi ∧ P (.bool true)
/-- the rows' ends have a common denominator -/
structure DnR (D : Int) (rs : List Rw) : Prop where
  pos : 0 < D
  lt : D.natAbs < 2 ^ 4000
  dvd : ∀ r ∈ rs, (r.lo.den : Int) ∣ D ∧ (r.hi.den : Int) ∣ D
def gStepsP (ds : List PyData) (P : PyData → Prop) : Prop := ∃ (rs : List Rw) (D : Int), ds = [.list (rs.map rwD)] ∧ RowsOk rs ∧ rs.length ≤ 5000 ∧ RowsK 100 rs ∧ DnR D rs ∧ ∀ s : List E3, StepsOf rs s → P (.tuple (s.map entD))
end Pg
set_option exponentiation.threshold 2000
/-! Pg89: looks of stretches put together, mirrored, told by stretches (plain). -/
namespace Pg
/-! ### stretches of which a look is the sum -/
def strE (acc : Int) : List E3 → List Rw
  | [] => []
  | (k, a, b) :: r => ⟨k, k, a - b - acc⟩ :: ((match r with | [] => [] | e :: _ => [⟨k, e.1, b⟩]) ++ strE b r)
def belT (acc : Int) : List E3 → Rat → T3
  | [], _ => (0, 0, 0)
  | e :: _, h => (if h ≤ e.1 then acc else 0, if h ≤ e.1 then acc else 0, if h < e.1 then acc else 0)
theorem strE_lo {acc : Int} : ∀ {s : List E3} {k : Rat}, AscE s → (∀ e ∈ s, k ≤ e.1) → ∀ r ∈ strE acc s, k ≤ r.lo ∧ r.lo ≤ r.hi
  | [], k, A, hk, r, m => by cases m
  | (k0, a, b) :: s, k, A, hk, r, m => by
    have A' := List.pairwise_cons.mp A
    have k1 := hk _ List.mem_cons_self
    unfold strE at m
    rcases List.mem_cons.mp m with e | m
    · subst e
      exact ⟨k1, Rat.le_refl⟩
    · rcases List.mem_append.mp m with m | m
      · cases s with
        | nil => cases m
        | cons e s =>
          rw [List.mem_singleton.mp m]
          have := A'.1 e List.mem_cons_self
          exact ⟨k1, by show k0 ≤ e.1; grind⟩
      · exact strE_lo (acc := b) A'.2 (fun e me => hk e (List.mem_cons_of_mem _ me)) r m
theorem V3_off {rs : List Rw} {h : Rat} (z : ∀ r ∈ rs, h < r.lo) : V3 rs h = (0, 0, 0) := by
  induction rs with
  | nil => rfl
  | cons r rs ih =>
    rw [V3_cons]
    show addT (has3 r h) (V3 rs h) = _
    rw [ih fun x m => z x (List.mem_cons_of_mem _ m)]
    have := z r List.mem_cons_self
    unfold has3 addT
    grind
theorem look_str {acc : Int} : ∀ {s : List E3} {h : Rat}, AscE s → endE acc s = 0 → look3 acc s h = addT (V3 (strE acc s) h) (belT acc s h)
  | [], h, A, e => by
    have e : acc = 0 := e
    subst e
    rfl
  | (k, a, b) :: s, h, A, e => by
    have A' := List.pairwise_cons.mp A
    have ih := look_str (acc := b) (s := s) (h := h) A'.2 e
    have off : ∀ h, h ≤ k → V3 (strE b s) h = (0, 0, 0) := fun h hk => V3_off fun r m => by
      cases s with
      | nil => cases m
      | cons e0 s =>
        have q := (strE_lo (acc := b) (k := e0.1) A'.2 (fun e me => by
          rcases List.mem_cons.mp me with z | z
          · rw [z]; exact Rat.le_refl
          · have := (List.pairwise_cons.mp A'.2).1 e z
            grind) r m).1
        have := A'.1 e0 List.mem_cons_self
        have : k < e0.1 := this
        grind
    unfold strE
    rw [V3_cons]
    show _ = addT (addT (has3 _ h) (V3 _ h)) _
    rw [V3_append]
    unfold look3
    by_cases c1 : h < k
    · rw [if_pos c1, off h (by grind)]
      cases s with
      | nil => simp only [V3, has3, belT, addT, List.map_nil, List.sum_nil]; grind
      | cons e0 s =>
        have := A'.1 e0 List.mem_cons_self
        have : k < e0.1 := this
        simp only [V3, has3, belT, addT, List.map_nil, List.sum_nil, List.map_cons, List.sum_cons]
        grind
    · rw [if_neg c1]
      by_cases c2 : h = k
      · rw [if_pos c2, off h (by grind)]
        cases s with
        | nil =>
          have e : b = 0 := e
          simp only [V3, has3, belT, addT, List.map_nil, List.sum_nil]
          grind
        | cons e0 s =>
          have := A'.1 e0 List.mem_cons_self
          have : k < e0.1 := this
          simp only [V3, has3, belT, addT, List.map_nil, List.sum_nil, List.map_cons, List.sum_cons]
          grind
      · rw [if_neg c2, ih]
        cases s with
        | nil =>
          simp only [V3, has3, belT, addT, List.map_nil, List.sum_nil, strE]
          grind
        | cons e0 s =>
          have := A'.1 e0 List.mem_cons_self
          have : k < e0.1 := this
          generalize V3 (strE b (e0 :: s)) h = X
          obtain ⟨x, y, z⟩ := X
          simp only [V3, has3, belT, addT, List.map_nil, List.sum_nil, List.map_cons, List.sum_cons]
          grind
theorem V3_filter (rs : List Rw) (h : Rat) : V3 (rs.filter fun r => decide (r.n ≠ 0)) h = V3 rs h := by
  induction rs with
  | nil => rfl
  | cons r rs ih =>
    rw [List.filter_cons]
    by_cases z : r.n = 0
    · rw [if_neg (by rw [decide_eq_false (fun n => n z)]; decide), ih, V3_cons]
      show _ = addT (has3 r h) (V3 rs h)
      generalize V3 rs h = X
      obtain ⟨x, y, w⟩ := X
      unfold has3 addT
      rw [z]
      grind
    · rw [if_pos (decide_eq_true z), V3_cons, V3_cons]
      show addT _ _ = addT _ _
      rw [ih]
theorem V3_str {s : List E3} (A : AscE s) (e : endE 0 s = 0) (h : Rat) : V3 ((strE 0 s).filter fun r => decide (r.n ≠ 0)) h = look3 0 s h := by
  rw [V3_filter, look_str A e]
  have : belT 0 s h = (0, 0, 0) := by
    cases s with
    | nil => rfl
    | cons e s => unfold belT; grind
  rw [this]
  generalize V3 (strE 0 s) h = X
  obtain ⟨x, y, z⟩ := X
  unfold addT
  grind
/-! ### put together -/
def prR (r s : Rw) : Rw := ⟨r.lo + s.lo, r.hi + s.hi, r.n * s.n⟩
def pairsR (rs ss : List Rw) : List Rw := rs.flatMap fun r => ss.map (prR r)
def mirRw (r : Rw) : Rw := ⟨-r.hi, -r.lo, r.n⟩
theorem pairs_ok {rs ss : List Rw} (h : RowsOk rs) (k : RowsOk ss) : RowsOk (pairsR rs ss) := fun p m => by
  obtain ⟨r, mr, mp⟩ := List.mem_flatMap.mp m
  obtain ⟨s, ms, rfl⟩ := List.mem_map.mp mp
  have a := h r mr
  have b := k s ms
  show r.lo + s.lo ≤ r.hi + s.hi
  grind
theorem pairs_cons (r : Rw) (rs ss : List Rw) : pairsR (r :: rs) ss = ss.map (prR r) ++ pairsR rs ss := rfl
theorem pairs_nil (rs : List Rw) : pairsR rs [] = [] := by
  induction rs with
  | nil => rfl
  | cons r rs ih => rw [pairs_cons, ih]; rfl
theorem pairs_len (rs ss : List Rw) : (pairsR rs ss).length = rs.length * ss.length := by
  induction rs with
  | nil => simp [pairsR]
  | cons r rs ih =>
    rw [pairs_cons, List.length_append, ih, List.length_map, List.length_cons, Nat.add_mul, Nat.one_mul, Nat.add_comm]
theorem prR_assoc (a b c : Rw) : prR (prR a b) c = prR a (prR b c) := by
  unfold prR
  congr 1
  · exact Rat.add_assoc ..
  · exact Rat.add_assoc ..
  · exact Int.mul_assoc ..
theorem map_pairs (a : Rw) (bs cs : List Rw) : (pairsR bs cs).map (prR a) = pairsR (bs.map (prR a)) cs := by
  induction bs with
  | nil => rfl
  | cons b bs ih =>
    rw [pairs_cons, List.map_append, ih, List.map_cons, pairs_cons, List.map_map]
    congr 1
    exact List.map_congr_left fun c _ => (prR_assoc a b c).symm
theorem pairs_app (as bs cs : List Rw) : pairsR (as ++ bs) cs = pairsR as cs ++ pairsR bs cs := List.flatMap_append
theorem pairs_assoc (as bs cs : List Rw) : pairsR (pairsR as bs) cs = pairsR as (pairsR bs cs) := by
  induction as with
  | nil => rfl
  | cons a as ih => rw [pairs_cons, pairs_app, ih, pairs_cons, map_pairs]
theorem pairs_mir (rs ss : List Rw) : pairsR (rs.map mirRw) (ss.map mirRw) = (pairsR rs ss).map mirRw := by
  induction rs with
  | nil => rfl
  | cons r rs ih =>
    rw [List.map_cons, pairs_cons, ih, pairs_cons, List.map_append, List.map_map, List.map_map]
    congr 1
    refine List.map_congr_left fun s _ => ?_
    show prR (mirRw r) (mirRw s) = mirRw (prR r s)
    unfold prR mirRw
    congr 1
    · show -r.hi + -s.hi = -(r.hi + s.hi)
      grind
    · show -r.lo + -s.lo = -(r.lo + s.lo)
      grind
theorem wAt_app (f : Rw → Rat) (a b : List Rw) (h : Rat) : wAt f (a ++ b) h = wAt f a h + wAt f b h := by
  unfold wAt
  rw [List.map_append, List.sum_append]
theorem wAt_pairs {f : Rw → Rat} (hf : ∀ r s, f (prR r s) = f r + f s) (rs ss : List Rw) (h : Rat) : wAt f (pairsR rs ss) h = (ss.map fun s => s.n * wAt f rs (h - f s)).sum := by
  induction rs with
  | nil =>
    have e : (fun s : Rw => s.n * wAt f [] (h - f s)) = fun _ => (0 : Int) := funext fun s => Int.mul_zero _
    rw [e, sum_zero]
    rfl
  | cons r rs ih =>
    have e : (fun s : Rw => s.n * wAt f (r :: rs) (h - f s)) = fun s => (if f (prR r s) = h then (prR r s).n else 0) + s.n * wAt f rs (h - f s) := funext fun s => by
      have e2 : wAt f (r :: rs) (h - f s) = (if f r = h - f s then r.n else 0) + wAt f rs (h - f s) := rfl
      rw [e2, hf, Int.mul_add]
      congr 1
      by_cases c : f r = h - f s
      · rw [if_pos c, if_pos (by rw [c]; grind)]
        exact Int.mul_comm ..
      · rw [if_neg c, if_neg (fun z => c (by rw [← z]; grind)), Int.mul_zero]
    rw [pairs_cons, wAt_app, ih, e, sum_add]
    congr 1
    unfold wAt
    rw [List.map_map]
    rfl
theorem lo_pr (r s : Rw) : Rw.lo (prR r s) = Rw.lo r + Rw.lo s := rfl
theorem hi_pr (r s : Rw) : Rw.hi (prR r s) = Rw.hi r + Rw.hi s := rfl
theorem pairs_comm {f : Rw → Rat} (hf : ∀ r s, f (prR r s) = f r + f s) (rs ss : List Rw) (h : Rat) : wAt f (pairsR rs ss) h = wAt f (pairsR ss rs) h := by
  induction rs with
  | nil => rw [pairs_nil]; rfl
  | cons r rs ih =>
    rw [pairs_cons, wAt_app, ih, wAt_pairs hf ss (r :: rs), List.map_cons, List.sum_cons, ← wAt_pairs hf ss rs]
    congr 1
    clear ih
    induction ss with
    | nil => exact (Int.mul_zero _).symm
    | cons s ss ih =>
      have e1 : wAt f ((s :: ss).map (prR r)) h = (if f (prR r s) = h then (prR r s).n else 0) + wAt f (ss.map (prR r)) h := rfl
      have e2 : wAt f (s :: ss) (h - f r) = (if f s = h - f r then s.n else 0) + wAt f ss (h - f r) := rfl
      rw [e1, e2, ih, Int.mul_add, hf]
      congr 1
      by_cases c : f s = h - f r
      · rw [if_pos c, if_pos (by rw [c]; grind)]
        rfl
      · rw [if_neg c, if_neg (fun z => c (by rw [← z]; grind)), Int.mul_zero]
/-- rows with the same weights at all ends have the same look -/
theorem v3_ends {rs ss : List Rw} (ok : RowsOk rs) (ok' : RowsOk ss) (h1 : ∀ h, wAt Rw.lo rs h = wAt Rw.lo ss h) (h2 : ∀ h, wAt Rw.hi rs h = wAt Rw.hi ss h) : V3 rs = V3 ss := by
  obtain ⟨T, A, mT⟩ := exists_asc ((rs ++ ss).map (·.lo) ++ (rs ++ ss).map (·.hi))
  have inlo : ∀ r ∈ rs ++ ss, r.lo ∈ T := fun r m => (mT _).mpr (List.mem_append.mpr (.inl (List.mem_map_of_mem m)))
  have inhi : ∀ r ∈ rs ++ ss, r.hi ∈ T := fun r m => (mT _).mpr (List.mem_append.mpr (.inr (List.mem_map_of_mem m)))
  have key : ∀ (f : Rw → Rat) (p : Rat → Bool), (∀ r ∈ rs ++ ss, f r ∈ T) → (∀ h, wAt f rs h = wAt f ss h) → (rs.map fun r => if p (f r) then r.n else 0).sum = (ss.map fun r => if p (f r) then r.n else 0).sum := fun f p hm hw => by
    rw [← sum_ends A p fun r m => hm r (List.mem_append.mpr (.inl m)), ← sum_ends A p fun r m => hm r (List.mem_append.mpr (.inr m))]
    congr 1
    exact List.map_congr_left fun h _ => by rw [hw]
  refine funext fun h => ?_
  rw [v3_by_ends ok, v3_by_ends ok']
  rw [key Rw.lo (fun x => decide (x < h)) inlo h1, key Rw.hi (fun x => decide (x < h)) inhi h2, key Rw.lo (fun x => decide (x ≤ h)) inlo h1, key Rw.hi (fun x => decide (x ≤ h)) inhi h2]
theorem wAt_of {rs ss : List Rw} (ok : RowsOk rs) (ok' : RowsOk ss) (e : V3 rs = V3 ss) (h : Rat) : wAt Rw.lo rs h = wAt Rw.lo ss h ∧ wAt Rw.hi rs h = wAt Rw.hi ss h := by
  rw [← v3_bot ok, ← v3_bot ok', ← v3_top ok, ← v3_top ok', e]
  exact ⟨rfl, rfl⟩
theorem put_congr {rs rs' ss ss' : List Rw} (o1 : RowsOk rs) (o1' : RowsOk rs') (o2 : RowsOk ss) (o2' : RowsOk ss') (e1 : V3 rs = V3 rs') (e2 : V3 ss = V3 ss') : V3 (pairsR rs ss) = V3 (pairsR rs' ss') := by
  have step : ∀ {rs rs' ss : List Rw}, RowsOk rs → RowsOk rs' → RowsOk ss → V3 rs = V3 rs' → V3 (pairsR rs ss) = V3 (pairsR rs' ss) := fun {rs rs' ss} o o' o2 e => by
    refine v3_ends (pairs_ok o o2) (pairs_ok o' o2) (fun h => ?_) fun h => ?_
    · rw [wAt_pairs lo_pr, wAt_pairs lo_pr]
      congr 1
      exact List.map_congr_left fun s _ => by rw [(wAt_of o o' e _).1]
    · rw [wAt_pairs hi_pr, wAt_pairs hi_pr]
      congr 1
      exact List.map_congr_left fun s _ => by rw [(wAt_of o o' e _).2]
  have comm : ∀ {rs ss : List Rw}, RowsOk rs → RowsOk ss → V3 (pairsR rs ss) = V3 (pairsR ss rs) := fun {rs ss} o o2 => v3_ends (pairs_ok o o2) (pairs_ok o2 o) (pairs_comm lo_pr rs ss) (pairs_comm hi_pr rs ss)
  rw [step o1 o1' o2 e1, comm o1' o2, step o2 o2' o1' e2, comm o2' o1']
theorem put_comm' {rs ss : List Rw} (o : RowsOk rs) (o2 : RowsOk ss) : V3 (pairsR rs ss) = V3 (pairsR ss rs) := v3_ends (pairs_ok o o2) (pairs_ok o2 o) (pairs_comm lo_pr rs ss) (pairs_comm hi_pr rs ss)
theorem put_add {rs ss ts : List Rw} (o1 : RowsOk rs) (o2 : RowsOk ss) (o3 : RowsOk ts) : V3 (pairsR rs (ss ++ ts)) = V3 (pairsR rs ss ++ pairsR rs ts) := by
  have o : RowsOk (ss ++ ts) := fun r m => (List.mem_append.mp m).elim (o2 r) (o3 r)
  rw [put_comm' o1 o, pairs_app]
  refine funext fun h => ?_
  rw [V3_append, V3_append, put_comm' o2 o1, put_comm' o3 o1]
theorem sum_pairs (rs ss : List Rw) : ((pairsR rs ss).map (·.n)).sum = (rs.map (·.n)).sum * (ss.map (·.n)).sum := by
  induction rs with
  | nil => exact (Int.zero_mul _).symm
  | cons r rs ih =>
    rw [pairs_cons, List.map_append, List.sum_append, ih, List.map_cons, List.sum_cons, Int.add_mul]
    congr 1
    clear ih
    induction ss with
    | nil => exact (Int.mul_zero _).symm
    | cons s ss ih =>
      rw [List.map_cons, List.map_cons, List.sum_cons, ih, List.map_cons, List.sum_cons, Int.mul_add]
      rfl
end Pg
namespace Pg
/-! ### entries by the look -/
theorem idle_at {acc : Int} : ∀ {s : List E3}, AscE s → noIdle acc s → ∀ p ∈ aheadE acc s, ¬ (p.1.2.1 = p.2 ∧ p.1.2.2 = p.2)
  | [], A, n, p, m => by cases m
  | (k, a, b) :: s, A, n, p, m => by
    rcases List.mem_cons.mp m with e | m
    · rw [e]
      exact n.1
    · exact idle_at (List.pairwise_cons.mp A).2 n.2 p m
theorem mem_tells {s : List E3} {F : Rat → T3} (T : Tells s F) (e : E3) : e ∈ s ↔ (F e.1).2 = e.2 ∧ ¬ ((F e.1).2.1 = (F e.1).1 ∧ (F e.1).2.2 = (F e.1).1) := by
  have a := T.asc
  constructor
  · intro m
    obtain ⟨i, hi⟩ := List.mem_iff_getElem?.mp m
    obtain ⟨p, hp⟩ : ∃ p, (aheadE 0 s)[i]? = some p := ⟨_, List.getElem?_eq_getElem (by rw [aheadE_len]; exact (List.getElem?_eq_some_iff.mp hi).1)⟩
    have q1 : p.1 = e := by
      have this := congrArg (fun l : List E3 => l[i]?) (aheadE_fst (acc := 0) (s := s))
      have this : ((aheadE 0 s).map (·.1))[i]? = s[i]? := this
      rw [List.getElem?_map, hp, hi] at this
      exact Option.some.inj this
    have mp := List.mem_of_getElem? hp
    have l := aheadE_look (acc := 0) a p mp
    have n := idle_at a T.idle p mp
    rw [q1, T.look] at l
    rw [q1] at n
    rw [l]
    exact ⟨rfl, n⟩
  · rintro ⟨h1, h2⟩
    refine Classical.byContradiction fun no => ?_
    have off : ∀ x ∈ s, e.1 ≠ x.1 := fun x mx z => by
      have := look3_at (acc := 0) a x mx
      rw [← z, T.look, h1] at this
      exact no (by rw [show e = x from Prod.ext z this]; exact mx)
    have := look3_off (acc := 0) off
    rw [T.look] at this
    exact h2 ⟨this.1.symm, this.2.symm.trans this.1.symm⟩
theorem asc_mem_uniq : ∀ {s t : List E3}, AscE s → AscE t → (∀ e, e ∈ s ↔ e ∈ t) → s = t
  | [], [], _, _, _ => rfl
  | [], e :: t, _, _, h => by cases (h e).mpr List.mem_cons_self
  | e :: s, [], _, _, h => by cases (h e).mp List.mem_cons_self
  | x :: s, y :: t, A, B, h => by
    have A' := List.pairwise_cons.mp A
    have B' := List.pairwise_cons.mp B
    have xy : x = y := by
      rcases List.mem_cons.mp ((h x).mp List.mem_cons_self) with e | m1
      · exact e
      rcases List.mem_cons.mp ((h y).mpr List.mem_cons_self) with e | m2
      · exact e.symm
      have := A'.1 y m2
      have := B'.1 x m1
      grind
    subst xy
    congr 1
    refine asc_mem_uniq A'.2 B'.2 fun e => ⟨fun m => ?_, fun m => ?_⟩
    · rcases List.mem_cons.mp ((h e).mp (List.mem_cons_of_mem _ m)) with z | z
      · subst z
        have := A'.1 _ m
        grind
      · exact z
    · rcases List.mem_cons.mp ((h e).mpr (List.mem_cons_of_mem _ m)) with z | z
      · subst z
        have := B'.1 _ m
        grind
      · exact z
/-! ### mirrored -/
def mirE (s : List E3) : List E3 := ((aheadE 0 s).map fun p => ((-p.1.1, p.1.2.1, p.2) : E3)).reverse
theorem mir_ok {rs : List Rw} (h : RowsOk rs) : RowsOk (rs.map mirRw) := fun p m => by
  obtain ⟨r, mr, rfl⟩ := List.mem_map.mp m
  have := h r mr
  show -r.hi ≤ -r.lo
  grind
theorem V3_mir (rs : List Rw) (h : Rat) : V3 (rs.map mirRw) h = ((V3 rs (-h)).2.2, (V3 rs (-h)).2.1, (V3 rs (-h)).1) := by
  induction rs with
  | nil => rfl
  | cons r rs ih =>
    rw [List.map_cons, V3_cons, V3_cons]
    show addT (has3 (mirRw r) h) (V3 (rs.map mirRw) h) = ((addT (has3 r (-h)) (V3 rs (-h))).2.2, (addT (has3 r (-h)) (V3 rs (-h))).2.1, (addT (has3 r (-h)) (V3 rs (-h))).1)
    rw [ih]
    generalize V3 rs (-h) = X
    obtain ⟨x, y, z⟩ := X
    unfold has3 addT mirRw
    grind
theorem ex_tells {rs : List Rw} (ok : RowsOk rs) : ∃ s, StepsOf rs s := by
  obtain ⟨T, A, mT⟩ := exists_asc (rs.map (·.lo) ++ rs.map (·.hi))
  have E : Ends rs T := ⟨A, fun x => by
    rw [mT, List.mem_append, List.mem_map, List.mem_map]
    constructor
    · rintro (⟨r, m, e⟩ | ⟨r, m, e⟩)
      · exact ⟨r, m, .inl e.symm⟩
      · exact ⟨r, m, .inr e.symm⟩
    · rintro ⟨r, m, e | e⟩
      · exact .inl ⟨r, m, e.symm⟩
      · exact .inr ⟨r, m, e.symm⟩⟩
  have lT : T.length ≤ 2 * rs.length := by
    have := asc_rat_len A fun t m => (mT t).mp m
    rw [List.length_append, List.length_map, List.length_map] at this
    omega
  have sub : ∀ e ∈ Pg.inF 0 (T.map (ent (V3 rs))), ∃ x ∈ T, e = ent (V3 rs) x := fun e m => by
    obtain ⟨x, mx, rfl⟩ := List.mem_map.mp (inF_sub e m)
    exact ⟨x, mx, rfl⟩
  refine ⟨_, tells_rows ok E, ?_, fun e m => ?_, fun e m => ?_⟩
  · have := inF_len (acc := 0) (s := T.map (ent (V3 rs)))
    rw [List.length_map] at this
    omega
  · obtain ⟨x, mx, rfl⟩ := sub e m
    exact (E.mem x).mp mx
  · obtain ⟨x, mx, rfl⟩ := sub e m
    rfl
/-- what tells the look of rows has their bounds -/
theorem Tells.of {rs : List Rw} {s : List E3} (T : Tells s (V3 rs)) (ok : RowsOk rs) : StepsOf rs s := by
  obtain ⟨t, S⟩ := ex_tells ok
  rw [T.uniq S.t]
  exact S
theorem tells_end {rs : List Rw} {s : List E3} (T : Tells s (V3 rs)) (ok : RowsOk rs) : endE 0 s = 0 := by
  obtain ⟨U, A, mU⟩ := exists_asc (s.map (·.1) ++ rs.map (·.hi))
  obtain ⟨h, hh⟩ : ∃ h : Rat, ∀ x ∈ U, x < h := by
    clear mU
    induction U with
    | nil => exact ⟨0, fun x m => by cases m⟩
    | cons a U ih =>
      obtain ⟨h, hh⟩ := ih (List.pairwise_cons.mp A).2
      refine ⟨if a < h then h else a + 1, fun x m => ?_⟩
      rcases List.mem_cons.mp m with e | m
      · subst e
        split
        · assumption
        · grind
      · have := hh x m
        split
        · exact this
        · grind
  rw [endE_look (h := h) fun e m => hh _ ((mU _).mpr (List.mem_append.mpr (.inl (List.mem_map_of_mem m)))), T.look]
  have : ∀ r ∈ rs, r.hi < h := fun r m => hh _ ((mU _).mpr (List.mem_append.mpr (.inr (List.mem_map_of_mem m))))
  clear T hh mU
  induction rs with
  | nil => rfl
  | cons r rs ih =>
    rw [V3_cons]
    show (has3 r h).1 + (V3 rs h).1 = 0
    rw [ih (fun x m => ok x (List.mem_cons_of_mem _ m)) fun x m => this x (List.mem_cons_of_mem _ m)]
    have := this r List.mem_cons_self
    unfold has3
    grind
theorem tells_mir {rs : List Rw} {s : List E3} (T : Tells s (V3 rs)) (ok : RowsOk rs) : Tells (mirE s) (V3 (rs.map mirRw)) := by
  obtain ⟨t, S⟩ := ex_tells (mir_ok ok)
  have A : AscE (mirE s) := by
    unfold mirE AscE
    rw [List.pairwise_reverse, List.pairwise_map]
    have a := T.asc
    rw [← aheadE_fst (acc := 0) (s := s)] at a
    have a : ((aheadE 0 s).map (·.1)).Pairwise fun x y => x.1 < y.1 := a
    rw [List.pairwise_map] at a
    exact a.imp fun {x y} h => by show -y.1.1 < -x.1.1; grind
  have e : mirE s = t := by
    refine asc_mem_uniq A S.t.asc fun e => ?_
    rw [mem_tells S.t, V3_mir]
    unfold mirE
    rw [List.mem_reverse, List.mem_map]
    constructor
    · rintro ⟨p, mp, rfl⟩
      have l := aheadE_look (acc := 0) T.asc p mp
      have n := idle_at T.asc T.idle p mp
      rw [T.look] at l
      have nn : - -p.1.1 = p.1.1 := by grind
      show ((V3 rs (- -p.1.1)).2.1, (V3 rs (- -p.1.1)).1) = (p.1.2.1, p.2) ∧ _
      rw [nn, l]
      refine ⟨rfl, fun z => n ?_⟩
      have z1 : p.1.2.1 = p.1.2.2 := z.1
      have z2 : p.2 = p.1.2.2 := z.2
      exact ⟨by rw [z1, z2], z2.symm⟩
    · rintro ⟨h1, h2⟩
      have h1 : ((V3 rs (-e.1)).2.1, (V3 rs (-e.1)).1) = e.2 := h1
      have m : ((-e.1, (V3 rs (-e.1)).2) : E3) ∈ s := (mem_tells T _).mpr ⟨rfl, fun z => h2 ⟨by
        show (V3 rs (-e.1)).2.1 = (V3 rs (-e.1)).2.2
        rw [z.1, z.2], z.2.symm⟩⟩
      obtain ⟨i, hi⟩ := List.mem_iff_getElem?.mp m
      obtain ⟨p, hp⟩ : ∃ p, (aheadE 0 s)[i]? = some p := ⟨_, List.getElem?_eq_getElem (by rw [aheadE_len]; exact (List.getElem?_eq_some_iff.mp hi).1)⟩
      have q1 : p.1 = (-e.1, (V3 rs (-e.1)).2) := by
        have this := congrArg (fun l : List E3 => l[i]?) (aheadE_fst (acc := 0) (s := s))
        have this : ((aheadE 0 s).map (·.1))[i]? = s[i]? := this
        rw [List.getElem?_map, hp, hi] at this
        exact Option.some.inj this
      have mp := List.mem_of_getElem? hp
      have l := aheadE_look (acc := 0) T.asc p mp
      rw [T.look, q1] at l
      have l : V3 rs (-e.1) = (p.2, (V3 rs (-e.1)).2) := l
      refine ⟨p, mp, ?_⟩
      rw [q1]
      refine Prod.ext ?_ ?_
      · show - -e.1 = e.1
        grind
      · show ((V3 rs (-e.1)).2.1, p.2) = e.2
        rw [← h1]
        refine Prod.ext rfl ?_
        show p.2 = (V3 rs (-e.1)).1
        rw [l]
  rw [e]
  exact S.t
end Pg
set_option exponentiation.threshold 5000
/-! Pg90: sums of fractions, common denominators of rows, promises over looks. -/
namespace Pg
open PySem PySem.Spec PyProof.Rows L2
theorem frac_add (a b : Rat) : frD (a.num * (b.den : Int) + b.num * (a.den : Int)) ((a.den : Int) * (b.den : Int)) = rD (a + b) := by
  have q0 : (0 : Int) < (a.den : Int) * (b.den : Int) := Int.mul_pos (den0 a) (den0 b)
  obtain ⟨g, e, _, _, h⟩ := of_frac (p := a.num * (b.den : Int) + b.num * (a.den : Int)) q0
  rw [e]
  congr 1
  rw [Rat.add_def', ← Rat.mkRat_self g]
  refine (Rat.mkRat_eq_iff g.den_nz (Nat.mul_ne_zero a.den_nz b.den_nz)).mpr ?_
  rw [Int.natCast_mul]
  exact h
theorem add_rk {i j : Nat} {a b : Rat} (ka : Rk i a) (kb : Rk j b) : Rk (i + j + 1) (a + b) := by
  have q0 : (0 : Int) < (a.den : Int) * (b.den : Int) := Int.mul_pos (den0 a) (den0 b)
  obtain ⟨g, e, l1, l2, h⟩ := of_frac (p := a.num * (b.den : Int) + b.num * (a.den : Int)) q0
  have eg : g = a + b := by
    rw [Rat.add_def', ← Rat.mkRat_self g]
    refine (Rat.mkRat_eq_iff g.den_nz (Nat.mul_ne_zero a.den_nz b.den_nz)).mpr ?_
    rw [Int.natCast_mul]
    exact h
  rw [← eg]
  have a2 : (a.den : Int).natAbs < 2 ^ i := by rw [Int.natAbs_natCast]; exact ka.d
  have b2 : (b.den : Int).natAbs < 2 ^ j := by rw [Int.natAbs_natCast]; exact kb.d
  have w1 := wide_lt ka.n b2
  have w2 := wide_lt kb.n a2
  rw [Nat.add_comm j i] at w2
  have w3 := wide_lt a2 b2
  have w4 := abs_add w1 w2
  exact ⟨Nat.lt_of_le_of_lt l1 w4, Nat.lt_of_le_of_lt l2 (Nat.lt_trans w3 (Nat.pow_lt_pow_right (by decide) (Nat.lt_succ_self _)))⟩
theorem add_dvd {a b : Rat} {D E : Int} (h : (a.den : Int) ∣ D) (k : (b.den : Int) ∣ E) : (((a + b).den : Nat) : Int) ∣ D * E := by
  have e := Rat.mkRat_self (a + b)
  rw [Rat.add_def' a b] at e
  have z := (Rat.mkRat_eq_iff (mkRat (a.num * (b.den : Int) + b.num * (a.den : Int)) (a.den * b.den)).den_nz (Nat.mul_ne_zero a.den_nz b.den_nz)).mp e
  rw [← Rat.add_def'] at z
  have c : Nat.Coprime (a + b).den (a + b).num.natAbs := (a + b).reduced.symm
  have d1 : (a + b).den ∣ (a + b).num.natAbs * (a.den * b.den) := by
    have : (((a + b).den : Nat) : Int) ∣ (a + b).num * ((a.den * b.den : Nat) : Int) := ⟨_, z.trans (Int.mul_comm ..)⟩
    have := Int.natAbs_dvd_natAbs.mpr this
    rwa [Int.natAbs_natCast, Int.natAbs_mul, Int.natAbs_natCast] at this
  have d2 := c.dvd_of_dvd_mul_left d1
  refine Int.dvd_trans (Int.natCast_dvd_natCast.mpr d2) ?_
  rw [Int.natCast_mul]
  exact Int.mul_dvd_mul h k
/-! ### common denominators -/
def prodD : List Rw → Int
  | [] => 1
  | r :: rs => ((r.lo.den : Int) * (r.hi.den : Int)) * prodD rs
theorem prodD_ok {i : Nat} : ∀ {rs : List Rw}, RowsK i rs → 0 < prodD rs ∧ (prodD rs).natAbs < 2 ^ (2 * i * rs.length + 1) ∧ ∀ r ∈ rs, (r.lo.den : Int) ∣ prodD rs ∧ (r.hi.den : Int) ∣ prodD rs
  | [], _ => ⟨by decide, by show (1 : Int).natAbs < 2 ^ (0 + 1); decide, fun r m => by cases m⟩
  | r :: rs, h => by
    obtain ⟨a, b, c⟩ := prodD_ok (rs := rs) fun x m => h x (List.mem_cons_of_mem _ m)
    obtain ⟨k1, k2⟩ := h r List.mem_cons_self
    have p := Int.mul_pos (den0 r.lo) (den0 r.hi)
    refine ⟨Int.mul_pos p a, ?_, fun x m => ?_⟩
    · have a1 : (r.lo.den : Int).natAbs < 2 ^ i := by rw [Int.natAbs_natCast]; exact k1.d
      have a2 : (r.hi.den : Int).natAbs < 2 ^ i := by rw [Int.natAbs_natCast]; exact k2.d
      have w := wide_lt (wide_lt a1 a2) b
      show (((r.lo.den : Int) * (r.hi.den : Int)) * prodD rs).natAbs < _
      refine Nat.lt_of_lt_of_le w (Nat.pow_le_pow_right (by decide) ?_)
      rw [List.length_cons, Nat.mul_add]
      omega
    · rcases List.mem_cons.mp m with e | m
      · subst e
        exact ⟨Int.dvd_trans ⟨_, rfl⟩ (⟨_, rfl⟩ : (x.lo.den : Int) * (x.hi.den : Int) ∣ _), Int.dvd_trans ⟨_, Int.mul_comm _ _⟩ (⟨_, rfl⟩ : (x.lo.den : Int) * (x.hi.den : Int) ∣ _)⟩
      · obtain ⟨c1, c2⟩ := c x m
        exact ⟨Int.dvd_trans c1 ⟨_, Int.mul_comm _ _⟩, Int.dvd_trans c2 ⟨_, Int.mul_comm _ _⟩⟩
/-- a divisor of all ends' denominators -/
structure DvR (D : Int) (rs : List Rw) : Prop where
  pos : 0 < D
  dvd : ∀ r ∈ rs, (r.lo.den : Int) ∣ D ∧ (r.hi.den : Int) ∣ D
theorem DvR.pairs {D E : Int} {rs ss : List Rw} (h : DvR D rs) (k : DvR E ss) : DvR (D * E) (pairsR rs ss) := ⟨Int.mul_pos h.pos k.pos, fun p m => by
  obtain ⟨r, mr, mp⟩ := List.mem_flatMap.mp m
  obtain ⟨s, ms, rfl⟩ := List.mem_map.mp mp
  exact ⟨add_dvd (h.dvd r mr).1 (k.dvd s ms).1, add_dvd (h.dvd r mr).2 (k.dvd s ms).2⟩⟩
theorem rowsK_pairs {i j : Nat} {rs ss : List Rw} (h : RowsK i rs) (k : RowsK j ss) : RowsK (i + j + 1) (pairsR rs ss) := fun p m => by
  obtain ⟨r, mr, mp⟩ := List.mem_flatMap.mp m
  obtain ⟨s, ms, rfl⟩ := List.mem_map.mp mp
  exact ⟨add_rk (h r mr).1 (k s ms).1, add_rk (h r mr).2 (k s ms).2⟩
/-- the weights' sizes, added -/
def wsR (rs : List Rw) : Nat := (rs.map fun r => r.n.natAbs).sum
theorem wsR_app (a b : List Rw) : wsR (a ++ b) = wsR a + wsR b := by
  unfold wsR
  rw [List.map_append, List.sum_append]
theorem wsR_pairs (rs ss : List Rw) : wsR (pairsR rs ss) = wsR rs * wsR ss := by
  induction rs with
  | nil => exact (Nat.zero_mul _).symm
  | cons r rs ih =>
    rw [pairs_cons, wsR_app, ih]
    show _ = (r.n.natAbs + wsR rs) * wsR ss
    rw [Nat.add_mul]
    congr 1
    clear ih
    induction ss with
    | nil => exact (Nat.mul_zero _).symm
    | cons s ss ih =>
      show (r.n * s.n).natAbs + wsR (ss.map (prR r)) = r.n.natAbs * (s.n.natAbs + wsR ss)
      rw [ih, Int.natAbs_mul, Nat.mul_add]
theorem v3_ws (rs : List Rw) (h : Rat) : (V3 rs h).1.natAbs ≤ wsR rs ∧ (V3 rs h).2.1.natAbs ≤ wsR rs ∧ (V3 rs h).2.2.natAbs ≤ wsR rs := by
  induction rs with
  | nil => exact ⟨Nat.le_refl _, Nat.le_refl _, Nat.le_refl _⟩
  | cons r rs ih =>
    rw [V3_cons]
    show (addT (has3 r h) (V3 rs h)).1.natAbs ≤ r.n.natAbs + wsR rs ∧ (addT (has3 r h) (V3 rs h)).2.1.natAbs ≤ r.n.natAbs + wsR rs ∧ (addT (has3 r h) (V3 rs h)).2.2.natAbs ≤ r.n.natAbs + wsR rs
    generalize V3 rs h = X at *
    obtain ⟨x, y, z⟩ := X
    obtain ⟨a, b, c⟩ := ih
    dsimp only at a b c
    unfold has3 addT
    dsimp only
    refine ⟨?_, ?_, ?_⟩ <;> split <;> omega
theorem strE_in {acc : Int} : ∀ {s : List E3}, ∀ r ∈ strE acc s, (∃ e ∈ s, r.lo = e.1) ∧ ∃ e ∈ s, r.hi = e.1
  | [], r, m => by cases m
  | (k, a, b) :: s, r, m => by
    unfold strE at m
    rcases List.mem_cons.mp m with e | m
    · subst e
      exact ⟨⟨_, List.mem_cons_self, rfl⟩, ⟨_, List.mem_cons_self, rfl⟩⟩
    · rcases List.mem_append.mp m with m | m
      · cases s with
        | nil => cases m
        | cons e s =>
          rw [List.mem_singleton.mp m]
          exact ⟨⟨_, List.mem_cons_self, rfl⟩, ⟨e, List.mem_cons_of_mem _ List.mem_cons_self, rfl⟩⟩
      · obtain ⟨⟨x, mx, e1⟩, ⟨y, my, e2⟩⟩ := strE_in (acc := b) r m
        exact ⟨⟨x, List.mem_cons_of_mem _ mx, e1⟩, ⟨y, List.mem_cons_of_mem _ my, e2⟩⟩
theorem strE_len {acc : Int} : ∀ {s : List E3}, (strE acc s).length ≤ 2 * s.length
  | [] => Nat.le_refl _
  | (k, a, b) :: s => by
    have ih := strE_len (acc := b) (s := s)
    unfold strE
    rw [List.length_cons, List.length_append, List.length_cons]
    cases s with
    | nil => show 0 + _ + 1 ≤ _; omega
    | cons e s => show 1 + _ + 1 ≤ _; omega
theorem strE_n {acc : Int} {B : Nat} : ∀ {s : List E3}, acc.natAbs ≤ B → (∀ e ∈ s, e.2.1.natAbs ≤ B ∧ e.2.2.natAbs ≤ B) → ∀ r ∈ strE acc s, r.n.natAbs ≤ 3 * B
  | [], _, _, r, m => by cases m
  | (k, a, b) :: s, ha, hs, r, m => by
    obtain ⟨h1, h2⟩ := hs _ List.mem_cons_self
    have h1 : a.natAbs ≤ B := h1
    have h2 : b.natAbs ≤ B := h2
    unfold strE at m
    rcases List.mem_cons.mp m with e | m
    · subst e
      show (a - b - acc).natAbs ≤ 3 * B
      omega
    · rcases List.mem_append.mp m with m | m
      · cases s with
        | nil => cases m
        | cons e s =>
          rw [List.mem_singleton.mp m]
          show b.natAbs ≤ 3 * B
          omega
      · exact strE_n (acc := b) h2 (fun e me => hs e (List.mem_cons_of_mem _ me)) r m
/-! ### a look and rows that have it -/
structure Lk (i : Nat) (D : Int) (rs : List Rw) (s : List E3) : Prop where
  t : Tells s (V3 rs)
  ok : RowsOk rs
  k : RowsK i rs
  d : DvR D rs
  w : wsR rs < 2 ^ 60
def strR (s : List E3) : List Rw := (strE 0 s).filter fun r => decide (r.n ≠ 0)
theorem Lk.str {i : Nat} {D : Int} {rs : List Rw} {s : List E3} (L : Lk i D rs s) : V3 (strR s) = V3 rs ∧ RowsOk (strR s) ∧ RowsK i (strR s) ∧ DvR D (strR s) ∧ (strR s).length ≤ 4 * rs.length ∧ ∀ r ∈ strR s, r.n.natAbs < 2 ^ 62 := by
  have S := L.t.of L.ok
  have sub : ∀ r ∈ strR s, r ∈ strE 0 s := fun r m => (List.mem_filter.mp m).1
  have hk : ∀ e ∈ s, Rk i e.1 ∧ (e.1.den : Int) ∣ D := fun e m => by
    obtain ⟨r, mr, z | z⟩ := S.m e m
    · rw [z]; exact ⟨(L.k r mr).1, (L.d.dvd r mr).1⟩
    · rw [z]; exact ⟨(L.k r mr).2, (L.d.dvd r mr).2⟩
  have hn : ∀ e ∈ s, e.2.1.natAbs ≤ wsR rs ∧ e.2.2.natAbs ≤ wsR rs := fun e m => by
    have a := v3_ws rs e.1
    rw [S.v e m]
    exact a.2
  refine ⟨funext fun h => ?_, fun r m => ?_, fun r m => ?_, ⟨L.d.pos, fun r m => ?_⟩, ?_, fun r m => ?_⟩
  · show V3 ((strE 0 s).filter _) h = _
    rw [V3_str L.t.asc (tells_end L.t L.ok), L.t.look]
  · cases s with
    | nil => cases sub r m
    | cons e s => exact (strE_lo (acc := 0) (k := e.1) L.t.asc (fun x mx => by
        rcases List.mem_cons.mp mx with z | z
        · rw [z]; exact Rat.le_refl
        · have := (List.pairwise_cons.mp L.t.asc).1 x z
          grind) r (sub r m)).2
  · obtain ⟨⟨x, mx, e1⟩, ⟨y, my, e2⟩⟩ := strE_in r (sub r m)
    rw [e1, e2]
    exact ⟨(hk x mx).1, (hk y my).1⟩
  · obtain ⟨⟨x, mx, e1⟩, ⟨y, my, e2⟩⟩ := strE_in r (sub r m)
    rw [e1, e2]
    exact ⟨(hk x mx).2, (hk y my).2⟩
  · have a := List.length_filter_le (fun r : Rw => decide (r.n ≠ 0)) (strE 0 s)
    have b := strE_len (acc := 0) (s := s)
    have c := S.l
    show ((strE 0 s).filter _).length ≤ _
    omega
  · have := strE_n (acc := 0) (B := wsR rs) (by omega) hn r (sub r m)
    have := L.w
    omega
theorem look_mid {acc : Int} : ∀ {s : List E3} {i : Nat} {e : E3} {q : Rat}, AscE s → s[i]? = some e → (∀ x ∈ s.take i, x.1 < q) → look3 acc s q = (if q = e.1 then (endE acc (s.take i), e.2) else if q < e.1 then (endE acc (s.take i), endE acc (s.take i), endE acc (s.take i)) else look3 e.2.2 (s.drop (i + 1)) q)
  | [], i, e, q, A, h, J => by cases h
  | (k, a, b) :: s, 0, e, q, A, h, J => by
    cases h
    rfl
  | (k, a, b) :: s, i + 1, e, q, A, h, J => by
    have j : k < q := J _ List.mem_cons_self
    have A' := List.pairwise_cons.mp A
    rw [look3, if_neg (by grind), if_neg (by grind)]
    exact look_mid (acc := b) (s := s) (i := i) A'.2 h fun x m => J x (List.mem_cons_of_mem _ m)
theorem look_end {acc : Int} : ∀ {s : List E3} {q : Rat}, (∀ x ∈ s, x.1 < q) → look3 acc s q = (endE acc s, endE acc s, endE acc s)
  | [], q, J => rfl
  | (k, a, b) :: s, q, J => by
    have j : k < q := J _ List.mem_cons_self
    rw [look3, if_neg (by grind), if_neg (by grind)]
    exact look_end (acc := b) fun x m => J x (List.mem_cons_of_mem _ m)
def gLooksAt (ds : List PyData) (P : PyData → Prop) : Prop := ∃ (s : List E3) (h : Rat), ds = [.tuple (s.map entD), rD h] ∧ AscE s ∧ s.length ≤ 10000 ∧ (∀ e ∈ s, Rk 100 e.1) ∧ Rk 100 h ∧ P (.tuple [.int (look3 0 s h).2.1, .int (look3 0 s h).2.2])
def gAddS (ds : List PyData) (P : PyData → Prop) : Prop := ∃ (D E : Int) (rs ss : List Rw) (s t : List E3), ds = [.tuple (s.map entD), .tuple (t.map entD)] ∧ Lk 100 D rs s ∧ Lk 100 E ss t ∧ rs.length ≤ 1000 ∧ ss.length ≤ 1000 ∧ (D * E).natAbs < 2 ^ 4000 ∧ ∀ u, Tells u (V3 (rs ++ ss)) → P (.tuple (u.map entD))
def gMirS (ds : List PyData) (P : PyData → Prop) : Prop := ∃ s : List E3, ds = [.tuple (s.map entD)] ∧ s.length ≤ 10000 ∧ P (.tuple ((mirE s).map entD))
def gStrS (ds : List PyData) (P : PyData → Prop) : Prop := ∃ s : List E3, ds = [.tuple (s.map entD)] ∧ s.length ≤ 10000 ∧ endE 0 s = 0 ∧ P (.list ((strR s).map rwD))
def gPutS (ds : List PyData) (P : PyData → Prop) : Prop := ∃ (i j : Nat) (D E : Int) (rs ss : List Rw) (s t : List E3), ds = [.tuple (s.map entD), .tuple (t.map entD)] ∧ Lk i D rs s ∧ Lk j E ss t ∧ i + j + 1 ≤ 100 ∧ rs.length * ss.length ≤ 300 ∧ rs.length ≤ 100 ∧ ss.length ≤ 100 ∧ (D * E).natAbs < 2 ^ 4000 ∧ ∀ u, Tells u (V3 (pairsR rs ss)) → P (.tuple (u.map entD))
end Pg
namespace Pg
open PySem PySem.Spec PyProof.Rows L2
/-! ### the law's own steps, for wide fractions -/
theorem Rk.b3 {i : Nat} {h : Rat} (r : Rk i h) (l : i ≤ 300 := by decide) : B300 h.num ∧ B300 (h.den : Int) := ⟨abs_up r.n l, by rw [show B300 (h.den : Int) ↔ ((h.den : Int)).natAbs < 2 ^ 300 from Iff.rfl, Int.natAbs_natCast]; exact Nat.lt_of_lt_of_le r.d (Nat.pow_le_pow_right (by decide) l)⟩
def gOrdW (ds : List PyData) (P : PyData → Prop) : Prop := ∃ hs : List Rat, ds = [.list (hs.map rD)] ∧ hs.length ≤ 10000 ∧ (∀ h ∈ hs, Rk 250 h) ∧ ∀ T : List Rat, T.Pairwise (· < ·) → (∀ x, x ∈ T ↔ x ∈ hs) → P (.list (T.map rD))
def gValW (ds : List PyData) (P : PyData → Prop) : Prop := ∃ (rs : List Rw) (h : Rat), ds = [.list (rs.map rwD), rD h] ∧ rs.length ≤ 10000 ∧ RowsK 250 rs ∧ Rk 250 h ∧ P (.int (V3 rs h).2.1)
def gMidW (ds : List PyData) (P : PyData → Prop) : Prop := ∃ s t : Rat, ds = [rD s, rD t] ∧ Rk 100 s ∧ Rk 100 t ∧ s < t ∧ ∀ g : Rat, s < g → g < t → Rk 250 g → P (rD g)
def gGapsW (ds : List PyData) (P : PyData → Prop) : Prop := ∃ hs : List Rat, ds = [.list (hs.map rD)] ∧ hs.Pairwise (· < ·) ∧ hs.length ≤ 10000 ∧ (∀ h ∈ hs, Rk 100 h) ∧ ∀ gs : List Rat, Gaps hs gs → (∀ g ∈ gs, Rk 250 g) → P (.list (gs.map rD))
def gStepsOW (ds : List PyData) (P : PyData → Prop) : Prop := ∃ rs : List Rw, ds = [.list (rs.map rwD)] ∧ RowsOk rs ∧ rs.length ≤ 1000 ∧ RowsK 100 rs ∧ ∀ s : List E3, StepsOf rs s → P (.tuple (s.map entD))
end Pg
namespace Pg
open PySem PySem.Spec PyProof.Rows L2
/-! ### told lists of a heap's making are new: x, y = [e, f(..), g(..)], e2; a check; x[1].append(None); x[2].append(None) -/
mutual
/-- no lists within -/
def noLs : PyData → Bool
  | .list _ => false
  | .tuple xs => noLsA xs
  | .dict kvs => noLsK kvs
  | _ => true
def noLsA : List PyData → Bool
  | [] => true
  | x :: xs => noLs x && noLsA xs
def noLsK : List (PyData × PyData) → Bool
  | [] => true
  | (c, d) :: xs => noLs c && (noLs d && noLsK xs)
end
section
variable {av : Addr → Prop} {K : PySem.W.Frag} {H : Hp}
mutual
theorem Dt.imL : ∀ {v : V} {d : PyData}, Dt av K H v d → noLs d = true → Dt (fun b => av b ∧ Imm H b) K H v d
  | _, _, .non, _ => .non
  | _, _, .bl b, _ => .bl b
  | _, _, .int i, _ => .int i
  | _, _, .str x, _ => .str x
  | _, _, .lst s t, h => by cases h
  | _, _, .tup s t, h => .tup (s.imp (fun s => ⟨⟨s.1, fun xs e => by
      rw [s.2] at e
      cases e⟩, s.2⟩) id) (Dts.imL t h)
  | _, _, .dct a n s t, h => .dct ⟨a, fun xs e => by rw [s] at e; cases e⟩ n s (Dks.imL t h)
  | _, _, .dcx a s c t, h => .dcx ⟨a, fun xs e => by rw [s] at e; cases e⟩ s c (Dxs.imL t h)
  | _, _, .obj a s c t, h => .obj ⟨a, fun xs e => by rw [s] at e; cases e⟩ s c (Dks.imL t h)
theorem Dts.imL : ∀ {vs : List V} {ds : List PyData}, Dts av K H vs ds → noLsA ds = true → Dts (fun b => av b ∧ Imm H b) K H vs ds
  | _, _, .nil, _ => .nil
  | _, _, .cons a t, h => by
    have h2 := Bool.and_eq_true_iff.mp h
    exact .cons (Dt.imL a h2.1) (Dts.imL t h2.2)
theorem Dks.imL : ∀ {vs : List (Key × V)} {ds : List (PyData × PyData)}, Dks av K H vs ds → noLsK ds = true → Dks (fun b => av b ∧ Imm H b) K H vs ds
  | _, _, .nil, _ => .nil
  | _, _, .cons a t, h => by
    have h2 := Bool.and_eq_true_iff.mp h
    have h3 := Bool.and_eq_true_iff.mp h2.2
    exact .cons (Dt.imL a h3.1) (Dks.imL t h3.2)
theorem Dxs.imL : ∀ {es : Ents} {ds : List (PyData × PyData)}, Dxs av K H es ds → noLsK ds = true → Dxs (fun b => av b ∧ Imm H b) K H es ds
  | _, _, .nil, _ => .nil
  | _, _, .cons a k d t, h => by
    have h2 := Bool.and_eq_true_iff.mp h
    have h3 := Bool.and_eq_true_iff.mp h2.2
    exact .cons (Dt.imL a h2.1) k (Dt.imL d h3.1) (Dxs.imL t h3.2)
end
end
section
variable {K : PySem.W.Frag} {F : Fx} {O : Ow} {H : Hp} {σ : L2.St} {δ : Se} {P : Po} {i j : Nat}
end
end Pg
namespace Pg
open PySem PySem.Spec PyProof.Rows L2
section
variable {K : PySem.W.Frag} {F : Fx} {δ : Se} {P : Po} {i j : Nat}
end
end Pg
set_option exponentiation.threshold 5000
/-! Pg91: shadows: the heights of plates along a direction, as stretches. -/
namespace Pg
open PySem PySem.Spec PyProof.Rows L2
def hR (A B : Int) (p : Pt) : Rat := mkRat (hN A B p) p.w.toNat
/-- the least height of places, and the greatest one -/
def IsLo (A B : Int) (H : List Pt) (x : Rat) : Prop := (∃ s ∈ H, hR A B s = x) ∧ ∀ s ∈ H, x ≤ hR A B s
def IsHi (A B : Int) (H : List Pt) (x : Rat) : Prop := (∃ s ∈ H, hR A B s = x) ∧ ∀ s ∈ H, hR A B s ≤ x
theorem IsLo.uniq {A B : Int} {H : List Pt} {x y : Rat} (h : IsLo A B H x) (k : IsLo A B H y) : x = y := by
  obtain ⟨⟨s, ms, rfl⟩, a⟩ := h
  obtain ⟨⟨t, mt, rfl⟩, b⟩ := k
  exact Rat.le_antisymm (a t mt) (b s ms)
theorem IsHi.uniq {A B : Int} {H : List Pt} {x y : Rat} (h : IsHi A B H x) (k : IsHi A B H y) : x = y := by
  obtain ⟨⟨s, ms, rfl⟩, a⟩ := h
  obtain ⟨⟨t, mt, rfl⟩, b⟩ := k
  exact Rat.le_antisymm (b s ms) (a t mt)
noncomputable def loR (A B : Int) (H : List Pt) : Rat := by
  classical
  exact if h : ∃ x, IsLo A B H x then Classical.choose h else 0
noncomputable def hiR (A B : Int) (H : List Pt) : Rat := by
  classical
  exact if h : ∃ x, IsHi A B H x then Classical.choose h else 0
theorem IsLo.eq {A B : Int} {H : List Pt} {x : Rat} (h : IsLo A B H x) : loR A B H = x := by
  have ex : ∃ x, IsLo A B H x := ⟨x, h⟩
  unfold loR
  rw [dif_pos ex]
  exact (Classical.choose_spec ex).uniq h
theorem IsHi.eq {A B : Int} {H : List Pt} {x : Rat} (h : IsHi A B H x) : hiR A B H = x := by
  have ex : ∃ x, IsHi A B H x := ⟨x, h⟩
  unfold hiR
  rw [dif_pos ex]
  exact (Classical.choose_spec ex).uniq h
/-- plates' stretches of heights -/
noncomputable def spR (A B : Int) (r : HR) : Rw := ⟨loR A B r.1, hiR A B r.1, r.2⟩
theorem v3_wsum (A B : Int) (rs : List HR) (h : Rat) : V3 (rs.map (spR A B)) h = (wsum (fun H => if loR A B H < h ∧ h ≤ hiR A B H then 1 else 0) rs, wsum (fun H => if loR A B H ≤ h ∧ h ≤ hiR A B H then 1 else 0) rs, wsum (fun H => if loR A B H ≤ h ∧ h < hiR A B H then 1 else 0) rs) := by
  induction rs with
  | nil => rfl
  | cons r rs ih =>
    rw [List.map_cons, V3_cons]
    show addT (has3 (spR A B r) h) (V3 (rs.map (spR A B)) h) = (r.2 * _ + _, r.2 * _ + _, r.2 * _ + _)
    rw [ih]
    unfold has3 addT spR
    dsimp only
    refine Prod.ext ?_ (Prod.ext ?_ ?_) <;> (dsimp only; split <;> simp)
theorem HeapOf.sp {rs ss : List HR} (h : HeapOf rs ss) (A B : Int) : V3 (ss.map (spR A B)) = V3 (rs.map (spR A B)) := funext fun x => by
  rw [v3_wsum, v3_wsum, h.wsum, h.wsum, h.wsum]
end Pg
namespace Pg
open PySem PySem.Spec PyProof.Rows L2
structure ShP (A B D : Int) (rs : List HR) : Prop where
  n : ∀ r ∈ rs, r.1 ≠ []
  l : ∀ r ∈ rs, r.1.length ≤ 20
  b : ∀ r ∈ rs, ∀ s ∈ r.1, Bk 80 80 s
  d : ∀ r ∈ rs, ∀ s ∈ r.1, s.w ∣ D
  p : 0 < D
  lt : D.natAbs < 2 ^ 2000
  ha : A.natAbs < 2 ^ 12
  hb : B.natAbs < 2 ^ 12
theorem ShP.of {A B D : Int} {rs ss : List HR} (h : ShP A B D rs) (O : HeapOf rs ss) : ShP A B D ss := by
  have a := O.all (Q := fun H => H ≠ [] ∧ H.length ≤ 20 ∧ (∀ s ∈ H, Bk 80 80 s) ∧ ∀ s ∈ H, s.w ∣ D) fun r m => ⟨h.n r m, h.l r m, h.b r m, h.d r m⟩
  exact ⟨fun r m => (a r m).1, fun r m => (a r m).2.1, fun r m => (a r m).2.2.1, fun r m => (a r m).2.2.2, h.p, h.lt, h.ha, h.hb⟩
end Pg
namespace Pg
open PySem PySem.Spec PyProof.Rows L2
/-- the way from one place to another one is that of small numbers -/
def SmW (p q : Pt) : Prop := ∃ a b k l : Int, 0 < k ∧ 0 < l ∧ k * (wy p q).1 = l * a ∧ k * (wy p q).2 = l * b ∧ a.natAbs < 2 ^ 12 ∧ b.natAbs < 2 ^ 12
end Pg
namespace Pg
open PySem PySem.Spec PyProof.Rows L2
/-! ### scaled by 1 / n, n great -/
def sc (n : Int) (p : Pt) : Pt := pN p.x p.y (p.w * n)
end Pg
set_option exponentiation.threshold 5000
/-! Pg92: shadows: rows and a heap that have them, texts of what is told. -/
namespace Pg
open PySem PySem.Spec PyProof.Rows L2
theorem ok0_ent {e : E3} {i : Nat} (r : Rk i e.1) (n : e.2.1.natAbs < 10 ^ 500) (m : e.2.2.natAbs < 10 ^ 500) (l : i ≤ 140 := by decide) : Ok0 (entD e) :=
  ⟨⟨⟨⟨(r.s500 l).1, (r.s500 l).2, trivial⟩, n, m, trivial⟩, Nat.le_of_ble_eq_true rfl, Nat.le_of_ble_eq_true rfl, fun z => (by cases z), short_n (Nat.le_of_ble_eq_true rfl)⟩, rfl⟩
/-- rows of a pool -/
structure HsP (L : List Pt) (rs : List HR) : Prop where
  l : rs.length ≤ 6
  r : ∀ r ∈ rs, LedP 4 2 r.1 ∧ r.1.length ≤ 4 ∧ r.2.natAbs ≤ 3
/-- rows and a heap that have one shadow -/
structure ShTwo (us rs : List HR) : Prop where
  lu : us.length ≤ 6
  lr : rs.length ≤ 6
  w : ∀ r ∈ rs, r.2.natAbs ≤ 3
  p : ∀ r ∈ rs, r.1 ≠ [] ∧ r.1.length ≤ 20 ∧ ∀ s ∈ r.1, Bk 80 80 s
  sm : ∀ r ∈ rs, ∀ p ∈ r.1, ∀ q ∈ r.1, SmW p q
  sh : Shw (.list (us.map rowD))
  ac : ∀ A B : Int, A.natAbs < 2 ^ 12 → B.natAbs < 2 ^ 12 → ∃ D, ShP A B D us ∧ ShP A B D rs
  v : ∀ A B : Int, V3 (us.map (spR A B)) = V3 (rs.map (spR A B))
theorem w_six {p : Pt} (b : Bk 4 2 p) : p.w ∣ 6 := by
  have h1 := b.f.w
  have h2 := b.w
  have : p.w = 1 ∨ p.w = 2 ∨ p.w = 3 := by omega
  rcases this with e | e | e <;> rw [e] <;> decide
theorem wy_small {p q : Pt} (a : Bk 4 2 p) (b : Bk 4 2 q) : (wy p q).1.natAbs < 2 ^ 12 ∧ (wy p q).2.natAbs < 2 ^ 12 :=
  ⟨abs_up (a := 7) (abs_sub (wide_lt b.x a.w) (wide_lt a.x b.w)) (by decide), abs_up (a := 7) (abs_sub (wide_lt b.y a.w) (wide_lt a.y b.w)) (by decide)⟩
theorem big9 : 1000 < 10 ^ 500 := by decide +kernel
theorem ShTwo.plain {L : List Pt} {rs f : List HR} (h : HsP L rs) (O : HeapOf rs f) : ShTwo f rs := by
  have lf := O.len
  have lr := h.l
  have sm := O.small fun r m => (h.r r m).2.2
  have al := O.all (Q := fun H => LedP 4 2 H ∧ H.length ≤ 4) fun r m => ⟨(h.r r m).1, (h.r r m).2.1⟩
  refine ⟨by omega, lr, fun r m => (h.r r m).2.2, fun r m => ⟨(h.r r m).1.1.ne, (h.r r m).1.2.1, fun s ms => ((h.r r m).1.2.2 s ms).up (by decide) (by decide)⟩, fun r m p mp q mq => ?_, shw_rows (by omega) fun r m => ⟨(al r m).1.2.1, fun s ms => ((al r m).1.2.2 s ms).gp (by decide) (by decide), ?_⟩, fun A B ha hb => ?_, fun A B => O.sp A B⟩
  · have w := wy_small ((h.r r m).1.2.2 p mp) ((h.r r m).1.2.2 q mq)
    exact ⟨_, _, 1, 1, by decide, by decide, rfl, rfl, w.1, w.2⟩
  · have := sm r m
    have := big9
    omega
  · have S : ShP A B 6 rs := ⟨fun r m => (h.r r m).1.1.ne, fun r m => (h.r r m).1.2.1, fun r m s ms => ((h.r r m).1.2.2 s ms).up (by decide) (by decide), fun r m s ms => w_six ((h.r r m).1.2.2 s ms), by decide, (by
      show 6 < 2 ^ 2000
      exact Nat.lt_of_lt_of_le (by decide : 6 < 2 ^ 3) (Nat.pow_le_pow_right (by decide) (by decide))), ha, hb⟩
    exact ⟨6, S.of O, S⟩
end Pg
/-! Pg94: stretches of a look, as the program tells them. -/
namespace Pg
open PySem PySem.Spec PyProof.Rows L2
def strQ (acc : Int) : List E3 → List Rw
  | [] => []
  | (k, a, b) :: r => ⟨k, k, a - b - acc⟩ :: ((if b ≠ 0 then (match r with | [] => [] | e :: _ => [⟨k, e.1, b⟩]) else []) ++ strQ b r)
theorem strQ_filter {acc : Int} : ∀ {s : List E3}, (strQ acc s).filter (fun r => decide (r.n ≠ 0)) = (strE acc s).filter fun r => decide (r.n ≠ 0)
  | [] => rfl
  | (k, a, b) :: r => by
    have ih := strQ_filter (acc := b) (s := r)
    unfold strQ strE
    rw [List.filter_cons, List.filter_cons, List.filter_append, List.filter_append, ih]
    by_cases z : b ≠ 0
    · first | (rw [if_pos z]; done) | (rw [if_pos z]; cases r <;> rfl)
    · rw [if_neg z]
      cases r with
      | nil => rfl
      | cons e r =>
        have : [(⟨k, e.1, b⟩ : Rw)].filter (fun r => decide (r.n ≠ 0)) = [] := by
          rw [List.filter_cons, if_neg (by simpa using z)]
          rfl
        rw [this]
        rfl
theorem strQ_len {acc : Int} : ∀ {s : List E3}, (strQ acc s).length ≤ 2 * s.length
  | [] => Nat.le_refl _
  | (k, a, b) :: r => by
    have ih := strQ_len (acc := b) (s := r)
    unfold strQ
    rw [List.length_cons, List.length_cons, List.length_append]
    have : (if b ≠ 0 then (match r with | [] => [] | e :: _ => [(⟨k, e.1, b⟩ : Rw)]) else []).length ≤ 1 := by
      split
      · cases r with
        | nil => exact Nat.zero_le _
        | cons e r => exact Nat.le_refl _
      · exact Nat.zero_le _
    omega
theorem behL_at {s : List E3} {i : Nat} (h : i < s.length) : (behL s)[i]? = some (endE 0 (s.take i)) := by
  cases i with
  | zero => rfl
  | succ i =>
    unfold behL
    rw [List.getElem?_cons_succ, List.getElem?_map, List.dropLast_eq_take, List.getElem?_take_of_lt (by omega)]
    have e : s[i]? = some s[i] := List.getElem?_eq_getElem (by omega)
    rw [take_snoc e, endE_snoc, e]
    rfl
theorem behL_len {s : List E3} : s.length ≤ (behL s).length := by
  unfold behL
  rw [List.length_cons, List.length_map, List.length_dropLast]
  omega
theorem enum_zip {s : List E3} {i : Nat} {x : PyData} (h : (enumD 0 (zipD (s.map entD) ((behL s).map .int)))[i]? = some x) : ∃ e, s[i]? = some e ∧ x = .tuple [.int (i : Nat), .tuple [entD e, .int (endE 0 (s.take i))]] := by
  have li := (List.getElem?_eq_some_iff.mp h).1
  rw [enumD_len, zipD_len, List.length_map, List.length_map] at li
  have li : i < s.length := by omega
  have e0 : s[i]? = some s[i] := List.getElem?_eq_getElem li
  have g := enumD_get (i := 0) (zipD_get (xs := s.map entD) (ys := (behL s).map .int) (i := i) (by rw [List.getElem?_map, e0]; rfl) (by rw [List.getElem?_map, behL_at li]; rfl))
  rw [Nat.zero_add] at g
  exact ⟨_, e0, Option.some.inj (h.symm.trans g)⟩
theorem drop_at {α : Type} {s : List α} {i : Nat} {e : α} (h : s[i]? = some e) : s.drop i = e :: s.drop (i + 1) := by
  obtain ⟨l, rfl⟩ := List.getElem?_eq_some_iff.mp h
  exact List.drop_eq_getElem_cons l
end Pg
set_option exponentiation.threshold 5000
/-! Pg95: looks put together: bounds, highest tops, rows moved. -/
namespace Pg
open PySem PySem.Spec PyProof.Rows L2
theorem wsR_le {m : Nat} {rs : List Rw} (h : ∀ r ∈ rs, r.n.natAbs ≤ m) : wsR rs ≤ m * rs.length := by
  induction rs with
  | nil => exact Nat.zero_le _
  | cons r rs ih =>
    have a := h r List.mem_cons_self
    have b := ih fun x mx => h x (List.mem_cons_of_mem _ mx)
    show r.n.natAbs + wsR rs ≤ m * (rs.length + 1)
    rw [Nat.mul_add]
    omega
/-- a look with bounds -/
def LB (i d w : Nat) (rs : List Rw) (s : List E3) : Prop := ∃ D, Lk i D rs s ∧ D.natAbs < 2 ^ d ∧ wsR rs ≤ w
theorem LB.t {i d w : Nat} {rs : List Rw} {s : List E3} (h : LB i d w rs s) : Tells s (V3 rs) := by obtain ⟨D, L, _⟩ := h; exact L.t
theorem LB.ok {i d w : Nat} {rs : List Rw} {s : List E3} (h : LB i d w rs s) : RowsOk rs := by obtain ⟨D, L, _⟩ := h; exact L.ok
theorem LB.k {i d w : Nat} {rs : List Rw} {s : List E3} (h : LB i d w rs s) : RowsK i rs := by obtain ⟨D, L, _⟩ := h; exact L.k
theorem LB.w {i d w : Nat} {rs : List Rw} {s : List E3} (h : LB i d w rs s) : wsR rs ≤ w := by obtain ⟨D, L, _, l⟩ := h; exact l
theorem LB.s {i d w : Nat} {rs : List Rw} {s : List E3} (h : LB i d w rs s) : StepsOf rs s := h.t.of h.ok
theorem LB.up {i d w i' d' w' : Nat} {rs : List Rw} {s : List E3} (h : LB i d w rs s) (hi : i ≤ i') (hd : d ≤ d') (hw : w ≤ w') : LB i' d' w' rs s := by
  obtain ⟨D, L, l, m⟩ := h
  exact ⟨D, ⟨L.t, L.ok, fun r mr => ⟨(L.k r mr).1.up hi, (L.k r mr).2.up hi⟩, L.d, L.w⟩, Nat.lt_of_lt_of_le l (Nat.pow_le_pow_right (by decide) hd), Nat.le_trans m hw⟩
theorem LB.of {i n m w : Nat} {rs : List Rw} {s : List E3} (S : StepsOf rs s) (ok : RowsOk rs) (k : RowsK i rs) (l : rs.length ≤ n) (b : ∀ r ∈ rs, r.n.natAbs ≤ m) (hw : m * n ≤ w) (w60 : w < 2 ^ 60) : LB i (2 * i * n + 1) w rs s := by
  obtain ⟨a, c, d⟩ := prodD_ok k
  have q := wsR_le b
  have q2 : m * rs.length ≤ m * n := Nat.mul_le_mul_left m l
  exact ⟨prodD rs, ⟨S.t, ok, k, ⟨a, d⟩, by omega⟩, Nat.lt_of_lt_of_le c (Nat.pow_le_pow_right (by decide) (Nat.succ_le_succ (Nat.mul_le_mul_left _ l))), by omega⟩
theorem LB.put {i j d e w v : Nat} {rs ss : List Rw} {s t u : List E3} (h : LB i d w rs s) (k : LB j e v ss t) (T : Tells u (V3 (pairsR rs ss))) (b : w * v < 2 ^ 60) : LB (i + j + 1) (d + e) (w * v) (pairsR rs ss) u := by
  obtain ⟨D, L, l1, w1⟩ := h
  obtain ⟨E, M, l2, w2⟩ := k
  have q : wsR (pairsR rs ss) ≤ w * v := by
    rw [wsR_pairs]
    exact Nat.mul_le_mul w1 w2
  exact ⟨D * E, ⟨T, pairs_ok L.ok M.ok, rowsK_pairs L.k M.k, L.d.pairs M.d, Nat.lt_of_le_of_lt q b⟩, wide_lt l1 l2, q⟩
theorem LB.add {i d e w v : Nat} {rs ss : List Rw} {s t u : List E3} (h : LB i d w rs s) (k : LB i e v ss t) (T : Tells u (V3 (rs ++ ss))) (b : w + v < 2 ^ 60) : LB i (d + e) (w + v) (rs ++ ss) u := by
  obtain ⟨D, L, l1, w1⟩ := h
  obtain ⟨E, M, l2, w2⟩ := k
  have q : wsR (rs ++ ss) ≤ w + v := by
    rw [wsR_app]
    omega
  refine ⟨D * E, ⟨T, fun r m => (List.mem_append.mp m).elim (L.ok r) (M.ok r), fun r m => (List.mem_append.mp m).elim (L.k r) (M.k r), ⟨Int.mul_pos L.d.pos M.d.pos, fun r m => ?_⟩, by omega⟩, wide_lt l1 l2, q⟩
  rcases List.mem_append.mp m with m | m
  · exact ⟨Int.dvd_trans (L.d.dvd r m).1 ⟨_, rfl⟩, Int.dvd_trans (L.d.dvd r m).2 ⟨_, rfl⟩⟩
  · exact ⟨Int.dvd_trans (M.d.dvd r m).1 ⟨_, Int.mul_comm ..⟩, Int.dvd_trans (M.d.dvd r m).2 ⟨_, Int.mul_comm ..⟩⟩
theorem rk_neg {i : Nat} {x : Rat} (h : Rk i x) : Rk i (-x) := ⟨by
  show (-x.num).natAbs < _
  rw [Int.natAbs_neg]
  exact h.n, h.d⟩
theorem wsR_mir (rs : List Rw) : wsR (rs.map mirRw) = wsR rs := by
  unfold wsR
  rw [List.map_map]
  rfl
theorem LB.mir {i d w : Nat} {rs : List Rw} {s : List E3} (h : LB i d w rs s) : LB i d w (rs.map mirRw) (mirE s) := by
  obtain ⟨D, L, l1, w1⟩ := h
  refine ⟨D, ⟨tells_mir L.t L.ok, mir_ok L.ok, fun r m => ?_, ⟨L.d.pos, fun r m => ?_⟩, by rw [wsR_mir]; exact L.w⟩, l1, by rw [wsR_mir]; exact w1⟩
  · obtain ⟨q, mq, rfl⟩ := List.mem_map.mp m
    exact ⟨rk_neg (L.k q mq).2, rk_neg (L.k q mq).1⟩
  · obtain ⟨q, mq, rfl⟩ := List.mem_map.mp m
    exact ⟨(L.d.dvd q mq).2, (L.d.dvd q mq).1⟩
theorem stepSum_lk {rs : List Rw} {s : List E3} (T : Tells s (V3 rs)) (ok : RowsOk rs) : stepSum s = (rs.map (·.n)).sum := by
  obtain ⟨h1, A1, m1⟩ := exists_asc (rs.map (·.hi))
  exact stepSum_rows ok T A1 fun r m => (m1 _).mpr (List.mem_map_of_mem (f := Rw.hi) m)
/-! ### the highest tops go together -/
theorem tops_mem {rs : List Rw} {s : List E3} (T : Tells s (V3 rs)) (ok : RowsOk rs) : P2Asc (topsE s) ∧ ∀ p, p ∈ topsE s ↔ p.2 = wAt Rw.hi rs p.1 ∧ p.2 ≠ 0 := by
  obtain ⟨h1, A1, m1⟩ := exists_asc (rs.map (·.hi))
  rw [tops_ends ok T A1 fun r m => (m1 _).mpr (List.mem_map_of_mem (f := Rw.hi) m)]
  refine ⟨endsL_asc A1, fun p => ?_⟩
  unfold endsL
  rw [List.mem_filter, List.mem_map]
  constructor
  · rintro ⟨⟨h, _, rfl⟩, b⟩
    exact ⟨rfl, by simpa using b⟩
  · rintro ⟨a, b⟩
    refine ⟨⟨p.1, ?_, Prod.ext rfl a.symm⟩, by simpa using b⟩
    refine (m1 _).mpr ?_
    rw [a] at b
    refine Classical.byContradiction fun no => b ?_
    unfold wAt
    have : (rs.map fun r : Rw => if r.hi = p.1 then r.n else 0) = rs.map fun _ => (0 : Int) := List.map_congr_left fun r m => if_neg fun z => no (by rw [← z]; exact List.mem_map_of_mem (f := Rw.hi) m)
    rw [this]
    exact sum_zero _
theorem sum_one {T : List Rat} (A : T.Pairwise (· < ·)) {a : Rat} (m : a ∈ T) (g : Rat → Int) (z : ∀ x ∈ T, x ≠ a → g x = 0) : (T.map g).sum = g a := by
  induction T with
  | nil => cases m
  | cons b T ih =>
    obtain ⟨A1, A2⟩ := List.pairwise_cons.mp A
    rw [List.map_cons, List.sum_cons]
    by_cases e : a = b
    · subst e
      have : T.map g = T.map fun _ => (0 : Int) := List.map_congr_left fun x mx => z x (List.mem_cons_of_mem _ mx) fun w => by
        have := A1 x mx
        rw [w] at this
        exact Rat.lt_irrefl this
      rw [this, sum_zero, Int.add_zero]
    · rcases List.mem_cons.mp m with w | m
      · exact (e w).elim
      rw [ih A2 m fun x mx => z x (List.mem_cons_of_mem _ mx), z b List.mem_cons_self fun w => e w.symm, Int.zero_add]
theorem sum_conv {f : Rw → Rat} {T : List Rat} (A : T.Pairwise (· < ·)) (g : Rat → Int) : ∀ {ss : List Rw}, (∀ s ∈ ss, f s ∈ T) → (ss.map fun s => s.n * g (f s)).sum = (T.map fun x => wAt f ss x * g x).sum
  | [], _ => by
    have : (fun x : Rat => wAt f [] x * g x) = fun _ => (0 : Int) := funext fun x => Int.zero_mul _
    rw [this, sum_zero]
    rfl
  | s :: ss, h => by
    have e : (fun x : Rat => wAt f (s :: ss) x * g x) = fun x => (if f s = x then s.n else 0) * g x + wAt f ss x * g x := funext fun x => by
      show ((if f s = x then s.n else 0) + wAt f ss x) * g x = _
      rw [Int.add_mul]
    rw [e, sum_add, List.map_cons, List.sum_cons, sum_conv A g fun x m => h x (List.mem_cons_of_mem _ m)]
    congr 1
    rw [sum_one A (h s List.mem_cons_self) (fun x => (if f s = x then s.n else 0) * g x) fun x _ n => by
      show (if f s = x then s.n else 0) * g x = 0
      rw [if_neg (fun w => n w.symm), Int.zero_mul]]
    show _ = (if f s = f s then s.n else 0) * g (f s)
    rw [if_pos rfl]
theorem top_conv {rs ss : List Rw} {A B : Rat} (hA : ∀ x, A < x → wAt Rw.hi rs x = 0) (hB : ∀ x, B < x → wAt Rw.hi ss x = 0) : wAt Rw.hi (pairsR rs ss) (A + B) = wAt Rw.hi rs A * wAt Rw.hi ss B ∧ ∀ h, A + B < h → wAt Rw.hi (pairsR rs ss) h = 0 := by
  obtain ⟨T, As, m⟩ := exists_asc (B :: ss.map (·.hi))
  have mem : ∀ s ∈ ss, Rw.hi s ∈ T := fun s ms => (m _).mpr (List.mem_cons_of_mem _ (List.mem_map_of_mem (f := Rw.hi) ms))
  have mB : B ∈ T := (m _).mpr List.mem_cons_self
  constructor
  · rw [wAt_pairs hi_pr, sum_conv (f := Rw.hi) As (fun x => wAt Rw.hi rs (A + B - x)) mem, sum_one As mB _ fun x _ n => ?_]
    · show wAt Rw.hi ss B * wAt Rw.hi rs (A + B - B) = _
      rw [show A + B - B = A by grind, Int.mul_comm]
    · show wAt Rw.hi ss x * wAt Rw.hi rs (A + B - x) = 0
      rcases (by grind : B < x ∨ x < B) with l | l
      · rw [hB x l, Int.zero_mul]
      · rw [hA _ (by grind), Int.mul_zero]
  · intro h l
    rw [wAt_pairs hi_pr, sum_conv (f := Rw.hi) As (fun x => wAt Rw.hi rs (h - x)) mem, sum_one As mB _ fun x _ n => ?_]
    · show wAt Rw.hi ss B * wAt Rw.hi rs (h - B) = 0
      rw [hA _ (by grind), Int.mul_zero]
    · show wAt Rw.hi ss x * wAt Rw.hi rs (h - x) = 0
      rcases (by grind : B < x ∨ x < B) with l | l
      · rw [hB x l, Int.zero_mul]
      · rw [hA _ (by grind), Int.mul_zero]
theorem last_snoc {α : Type} {l : List α} {p : α} (h : l.getLast? = some p) : l.dropLast ++ [p] = l := by
  obtain ⟨ys, rfl⟩ := List.getLast?_eq_some_iff.mp h
  rw [List.dropLast_concat]
theorem p2_last {l : List (Rat × Int)} (A : P2Asc l) : ∀ {p}, l.getLast? = some p ↔ p ∈ l ∧ ∀ q ∈ l, q.1 ≤ p.1 := fun {p} => by
  constructor
  · intro h
    have e := last_snoc h
    refine ⟨by rw [← e]; exact List.mem_append.mpr (.inr (List.mem_singleton.mpr rfl)), fun q mq => ?_⟩
    unfold P2Asc at A
    rw [← e] at mq A
    rcases List.mem_append.mp mq with mq | mq
    · exact Rat.le_of_lt ((List.pairwise_append.mp A).2.2 q mq p (List.mem_singleton.mpr rfl))
    · rw [List.mem_singleton.mp mq]
      exact Rat.le_refl
  · rintro ⟨m, h⟩
    cases e : l.getLast? with
    | none =>
      rw [List.getLast?_eq_none_iff] at e
      rw [e] at m
      cases m
    | some q =>
      have d := last_snoc e
      unfold P2Asc at A
      rw [← d] at m A
      rcases List.mem_append.mp m with m | m
      · have l1 : p.1 < q.1 := (List.pairwise_append.mp A).2.2 p m q (List.mem_singleton.mpr rfl)
        have l2 := h q (by rw [← d]; exact List.mem_append.mpr (.inr (List.mem_singleton.mpr rfl)))
        exact (Rat.not_lt.mpr l2 l1).elim
      · rw [List.mem_singleton.mp m]
theorem top_none {rs : List Rw} {s : List E3} (T : Tells s (V3 rs)) (ok : RowsOk rs) : topsE s = [] ↔ ∀ x, wAt Rw.hi rs x = 0 := by
  obtain ⟨_, M⟩ := tops_mem T ok
  constructor
  · intro e x
    refine Classical.byContradiction fun n => ?_
    have := (M (x, wAt Rw.hi rs x)).mpr ⟨rfl, n⟩
    rw [e] at this
    cases this
  · intro h
    refine List.eq_nil_iff_forall_not_mem.mpr fun p m => ?_
    obtain ⟨a, b⟩ := (M p).mp m
    exact b (a.trans (h _))
theorem top_some {rs : List Rw} {s : List E3} (T : Tells s (V3 rs)) (ok : RowsOk rs) {p : Rat × Int} (e : (topsE s).getLast? = some p) : p.2 = wAt Rw.hi rs p.1 ∧ p.2 ≠ 0 ∧ ∀ x, p.1 < x → wAt Rw.hi rs x = 0 := by
  obtain ⟨A, M⟩ := tops_mem T ok
  obtain ⟨m, h⟩ := (p2_last A).mp e
  refine ⟨((M p).mp m).1, ((M p).mp m).2, fun x l => ?_⟩
  refine Classical.byContradiction fun n => ?_
  have := h _ ((M (x, wAt Rw.hi rs x)).mpr ⟨rfl, n⟩)
  exact Rat.not_lt.mpr this l
theorem top_put0 {rs ss : List Rw} {s t u : List E3} (S : Tells s (V3 rs)) (T : Tells t (V3 ss)) (U : Tells u (V3 (pairsR rs ss))) (o1 : RowsOk rs) (o2 : RowsOk ss) (e : topsE s = [] ∨ topsE t = []) : topsE u = [] := by
  rw [top_none U (pairs_ok o1 o2)]
  intro x
  rcases e with e | e
  · rw [wAt_pairs hi_pr]
    have := (top_none S o1).mp e
    have z : (fun s : Rw => s.n * wAt Rw.hi rs (x - s.hi)) = fun _ => (0 : Int) := funext fun s => by rw [this, Int.mul_zero]
    rw [z, sum_zero]
  · rw [pairs_comm hi_pr, wAt_pairs hi_pr]
    have := (top_none T o2).mp e
    have z : (fun s : Rw => s.n * wAt Rw.hi ss (x - s.hi)) = fun _ => (0 : Int) := funext fun s => by rw [this, Int.mul_zero]
    rw [z, sum_zero]
theorem top_put {rs ss : List Rw} {s t u : List E3} (S : Tells s (V3 rs)) (T : Tells t (V3 ss)) (U : Tells u (V3 (pairsR rs ss))) (o1 : RowsOk rs) (o2 : RowsOk ss) {p q : Rat × Int} (e1 : (topsE s).getLast? = some p) (e2 : (topsE t).getLast? = some q) : (topsE u).getLast? = some (p.1 + q.1, p.2 * q.2) := by
  obtain ⟨a1, a2, a3⟩ := top_some S o1 e1
  obtain ⟨b1, b2, b3⟩ := top_some T o2 e2
  obtain ⟨c1, c2⟩ := top_conv a3 b3
  obtain ⟨A, M⟩ := tops_mem U (pairs_ok o1 o2)
  refine (p2_last A).mpr ⟨(M _).mpr ⟨by show p.2 * q.2 = wAt Rw.hi (pairsR rs ss) (p.1 + q.1); rw [c1, ← a1, ← b1], Int.mul_ne_zero a2 b2⟩, fun x mx => ?_⟩
  refine Rat.not_lt.mp fun l => ?_
  obtain ⟨d1, d2⟩ := (M x).mp mx
  exact d2 (d1.trans (c2 _ l))
/-! ### rows moved -/
def shR (h : Rat) (r : Rw) : Rw := ⟨r.lo + h, r.hi + h, r.n⟩
def mvR (r o : Rw) : Rw := ⟨o.lo + r.lo, o.hi + r.lo, o.n * r.n⟩
theorem sh_one (rs : List Rw) (h : Rat) : pairsR rs [⟨h, h, 1⟩] = rs.map (shR h) := by
  induction rs with
  | nil => rfl
  | cons r rs ih =>
    rw [pairs_cons, ih, List.map_cons]
    show prR r ⟨h, h, 1⟩ :: _ = _
    congr 1
    show Rw.mk _ _ _ = Rw.mk _ _ _
    rw [Int.mul_one]
theorem mv_one (rs : List Rw) (h : Rat) (n : Int) : pairsR rs [⟨h, h, n⟩] = rs.map (mvR ⟨h, h, n⟩) := by
  induction rs with
  | nil => rfl
  | cons r rs ih =>
    rw [pairs_cons, ih, List.map_cons]
    rfl
theorem back_pt {l h : Rat} (le : l ≤ h) : V3 (pairsR [⟨l, h, 1⟩] [⟨-h, -h, 1⟩, ⟨-l, -l, 1⟩, ⟨-h, -l, -1⟩]) = V3 [⟨0, 0, 1⟩] := by
  refine v3_ends (pairs_ok ?_ ?_) ?_ (fun x => ?_) fun x => ?_
  · intro r m
    rw [List.mem_singleton.mp m]
    exact le
  · intro r m
    simp only [List.mem_cons, List.not_mem_nil, or_false] at m
    rcases m with rfl | rfl | rfl
    · exact Rat.le_refl
    · exact Rat.le_refl
    · show -h ≤ -l
      grind
  · intro r m
    rw [List.mem_singleton.mp m]
    exact Rat.le_refl
  · show (if l + -h = x then (1 : Int) * 1 else 0) + ((if l + -l = x then 1 * 1 else 0) + ((if l + -h = x then 1 * -1 else 0) + 0)) = (if (0 : Rat) = x then 1 else 0) + 0
    rw [show l + -l = 0 by grind]
    by_cases a : l + -h = x
    · rw [if_pos a, if_pos a]; split <;> omega
    · rw [if_neg a, if_neg a]; split <;> omega
  · show (if h + -h = x then (1 : Int) * 1 else 0) + ((if h + -l = x then 1 * 1 else 0) + ((if h + -l = x then 1 * -1 else 0) + 0)) = (if (0 : Rat) = x then 1 else 0) + 0
    rw [show h + -h = 0 by grind]
    by_cases a : h + -l = x
    · rw [if_pos a, if_pos a]; split <;> omega
    · rw [if_neg a, if_neg a]; split <;> omega
theorem tells_pt {h : Rat} {n : Int} (hn : n ≠ 0) : Tells [(h, n, 0)] (V3 [⟨h, h, n⟩]) := by
  refine ⟨List.pairwise_singleton .., ⟨fun z => hn z.1, trivial⟩, fun x => ?_⟩
  show (if x = h then ((0 : Int), n, (0 : Int)) else if x < h then (0, 0, 0) else (0, 0, 0)) = addT (has3 ⟨h, h, n⟩ x) (V3 [] x)
  unfold has3 addT
  show _ = ((if h < x ∧ x ≤ h then n else 0) + (0 : Int), (if h ≤ x ∧ x ≤ h then n else 0) + (0 : Int), (if h ≤ x ∧ x < h then n else 0) + (0 : Int))
  grind
end Pg
namespace Pg
open PySem PySem.Spec PyProof.Rows L2
def gPlusL (ds : List PyData) (P : PyData → Prop) : Prop := ∃ a b : Rat, ds = [rD a, rD b] ∧ Rk 100 a ∧ Rk 100 b ∧ P (rD (a + b))
def gShiftL (ds : List PyData) (P : PyData → Prop) : Prop := ∃ (rs : List Rw) (h : Rat), ds = [.list (rs.map rwD), rD h] ∧ rs.length ≤ 1000 ∧ RowsK 100 rs ∧ Rk 100 h ∧ P (.list ((rs.map (shR h)).map rwD))
def gMovL (ds : List PyData) (P : PyData → Prop) : Prop := ∃ (rs ss : List Rw), ds = [.list (rs.map rwD), .list (ss.map rwD)] ∧ rs.length ≤ 100 ∧ ss.length ≤ 100 ∧ RowsK 100 rs ∧ RowsK 100 ss ∧ (∀ r ∈ rs, r.n.natAbs < 2 ^ 60) ∧ (∀ r ∈ ss, r.n.natAbs < 2 ^ 60) ∧ P (.list ((rs.flatMap fun r => ss.map (mvR r)).map rwD))
def gPairsL (ds : List PyData) (P : PyData → Prop) : Prop := ∃ (rs ss : List Rw), ds = [.list (rs.map rwD), .list (ss.map rwD)] ∧ rs.length ≤ 100 ∧ ss.length ≤ 100 ∧ RowsK 100 rs ∧ RowsK 100 ss ∧ (∀ r ∈ rs, r.n.natAbs < 2 ^ 60) ∧ (∀ r ∈ ss, r.n.natAbs < 2 ^ 60) ∧ P (.list ((pairsR rs ss).map rwD))
def gRightS (ds : List PyData) (P : PyData → Prop) : Prop := ∃ (rs ss ts : List Rw), ds = [.list (rs.map rwD), .list (ss.map rwD), .list (ts.map rwD)] ∧ DrR 3 rs ∧ DrR 2 ss ∧ DrR 2 ts ∧ P (.bool true)
def gEndsR (ds : List PyData) (P : PyData → Prop) : Prop := ∃ (rs ss : List Rw) (s t : List E3), ds = [.tuple (s.map entD), .tuple (t.map entD)] ∧ LB 31 200 9 rs s ∧ LB 31 200 9 ss t ∧ rs.length ≤ 3 ∧ ss.length ≤ 3 ∧ P (.bool true)
end Pg
namespace Pg
theorem mv_len (rs ss : List Rw) : (rs.flatMap fun r => ss.map (mvR r)).length = rs.length * ss.length := by
  induction rs with
  | nil => exact (Nat.zero_mul _).symm
  | cons r rs ih =>
    rw [List.flatMap_cons, List.length_append, ih, List.length_map, List.length_cons, Nat.add_mul, Nat.one_mul, Nat.add_comm]
end Pg
namespace Pg
open PySem PySem.Spec PyProof.Rows L2
theorem LB.gPut {i j d e w v : Nat} {rs ss : List Rw} {s t : List E3} (h : LB i d w rs s) (k : LB j e v ss t) (hij : i + j + 1 ≤ 100) (l3 : rs.length * ss.length ≤ 300) (lr : rs.length ≤ 100) (ls : ss.length ≤ 100) (de : d + e ≤ 4000) {u : List E3} (U : Tells u (V3 (pairsR rs ss))) {P : PyData → Prop} (p : P (.tuple (u.map entD))) : gPutS [.tuple (s.map entD), .tuple (t.map entD)] P := by
  obtain ⟨D, L, l1, _⟩ := h
  obtain ⟨E, M, l2, _⟩ := k
  refine ⟨i, j, D, E, rs, ss, s, t, rfl, L, M, hij, l3, lr, ls, Nat.lt_of_lt_of_le (wide_lt l1 l2) (Nat.pow_le_pow_right (by decide) de), fun x X => ?_⟩
  rw [X.uniq U]
  exact p
theorem LB.gAdd {i j d e w v : Nat} {rs ss : List Rw} {s t : List E3} (h : LB i d w rs s) (k : LB j e v ss t) (hi : i ≤ 100) (hj : j ≤ 100) (lr : rs.length ≤ 1000) (ls : ss.length ≤ 1000) (de : d + e ≤ 4000) {u : List E3} (U : Tells u (V3 (rs ++ ss))) {P : PyData → Prop} (p : P (.tuple (u.map entD))) : gAddS [.tuple (s.map entD), .tuple (t.map entD)] P := by
  obtain ⟨D, L, l1, _⟩ := h.up hi (Nat.le_refl _) (Nat.le_refl _)
  obtain ⟨E, M, l2, _⟩ := k.up hj (Nat.le_refl _) (Nat.le_refl _)
  refine ⟨D, E, rs, ss, s, t, rfl, L, M, lr, ls, Nat.lt_of_lt_of_le (wide_lt l1 l2) (Nat.pow_le_pow_right (by decide) de), fun x X => ?_⟩
  rw [X.uniq U]
  exact p
theorem shw_tupl {ds : List PyData} (h : ∀ d ∈ ds, Ok0 d) (n : ds.length ≤ 100) : Shw (.tuple ds) := by
  obtain ⟨a1, a2, a3, a4⟩ := all_ok0 h
  refine shw_nd (d := .tuple ds) a1 ?_ ?_ a4
  · show 1 + nodesAll ds ≤ 16000
    omega
  · show PyData.depthAll ds + 1 ≤ 60
    omega
theorem LB.shw {i d w : Nat} {rs : List Rw} {s : List E3} (h : LB i d w rs s) (hi : i ≤ 140) (l : rs.length ≤ 50) (hw : w ≤ 1000) : Shw (.tuple (s.map entD)) := by
  have S := h.s
  have ls := S.l
  have ww := h.w
  have big : 1000 < 10 ^ 500 := by decide +kernel
  refine shw_tupl (fun x m => ?_) (by rw [List.length_map]; omega)
  obtain ⟨e, me, rfl⟩ := List.mem_map.mp m
  have vv := v3_ws rs e.1
  have ev := S.v e me
  have q1 : e.2.1 = (V3 rs e.1).2.1 := congrArg Prod.fst ev
  have q2 : e.2.2 = (V3 rs e.1).2.2 := congrArg Prod.snd ev
  refine ok0_ent (i := i) ?_ (by rw [q1]; omega) (by rw [q2]; omega) hi
  obtain ⟨r, mr, z | z⟩ := S.m e me
  · rw [z]; exact (h.k r mr).1
  · rw [z]; exact (h.k r mr).2
theorem tells_nil : Tells [] (V3 []) := ⟨.nil, trivial, fun _ => rfl⟩
theorem LB.nil : LB 31 200 9 [] [] := ⟨1, ⟨tells_nil, fun r m => (by cases m), fun r m => (by cases m), ⟨by decide, fun r m => (by cases m)⟩, by decide⟩, by decide, by decide⟩
end Pg
namespace Pg
open PySem PySem.Spec PyProof.Rows L2
theorem sum_ws (rs : List Rw) : ((rs.map fun r : Rw => r.n).sum).natAbs ≤ wsR rs := by
  induction rs with
  | nil => exact Nat.le_refl _
  | cons r rs ih =>
    rw [List.map_cons, List.sum_cons]
    show (r.n + _).natAbs ≤ r.n.natAbs + wsR rs
    omega
theorem LB.ss {i d w : Nat} {rs : List Rw} {s : List E3} (h : LB i d w rs s) : (stepSum s).natAbs ≤ w := by
  rw [stepSum_lk h.t h.ok]
  exact Nat.le_trans (sum_ws rs) h.w
end Pg
namespace Pg
open PySem PySem.Spec PyProof.Rows L2
theorem at_top {l : List (Rat × Int)} {p : Rat × Int} (h : l.getLast? = some p) : atI (l.map p2D) (-1) = some (p2D p) := by
  rw [← last_snoc h, List.map_append]
  exact at_last
theorem last_ex {α : Type} {l : List α} (h : l.isEmpty = false) : ∃ p, l.getLast? = some p := by
  cases l with
  | nil => cases h
  | cons a l => exact ⟨_, List.getLast?_eq_some_getLast (List.cons_ne_nil a l)⟩
end Pg
namespace Pg
open PySem PySem.Spec PyProof.Rows L2
theorem wAt_ws (f : Rw → Rat) (rs : List Rw) (h : Rat) : (wAt f rs h).natAbs ≤ wsR rs := by
  induction rs with
  | nil => exact Nat.le_refl _
  | cons r rs ih =>
    show ((if f r = h then r.n else 0) + wAt f rs h).natAbs ≤ r.n.natAbs + wsR rs
    split <;> omega
theorem LB.top {i d w : Nat} {rs : List Rw} {s : List E3} (h : LB i d w rs s) {p : Rat × Int} (e : (topsE s).getLast? = some p) : Rk i p.1 ∧ p.2.natAbs ≤ w := by
  constructor
  · have m := List.mem_of_getLast? e
    unfold topsE at m
    obtain ⟨x, mx, rfl⟩ := List.mem_map.mp m
    obtain ⟨r, mr, z | z⟩ := h.s.m x (List.mem_filter.mp mx).1
    · show Rk i x.1
      rw [z]; exact (h.k r mr).1
    · show Rk i x.1
      rw [z]; exact (h.k r mr).2
  · obtain ⟨a, _, _⟩ := top_some h.t h.ok e
    rw [a]
    exact Nat.le_trans (wAt_ws _ _ _) h.w
end Pg
namespace Pg
open PySem PySem.Spec PyProof.Rows L2
def r52 : Rat := ⟨5, 2, by decide, by decide⟩
def r32 : Rat := ⟨3, 2, by decide, by decide⟩
def rm13 : Rat := ⟨-1, 3, by decide, by decide⟩
theorem first_row {rs : List Rw} (D : DrR 3 rs) : ∃ r : Rw, atI (rs.map rwD ++ [.tuple [.tuple [.int 0, .int 1], .tuple [.int 5, .int 2], .int 1]]) 0 = some (rwD r) ∧ r.lo ≤ r.hi ∧ Rk 31 r.lo ∧ Rk 31 r.hi := by
  cases rs with
  | nil => exact ⟨⟨0, r52, 1⟩, rfl, by decide, ⟨by decide, by decide⟩, ⟨by decide, by decide⟩⟩
  | cons r rs => exact ⟨r, by
      show atI (rwD r :: (rs.map rwD ++ _)) 0 = _
      exact atI_nat (X := rwD r :: (rs.map rwD ++ _)) (n := 0) (Nat.succ_pos _), D.ok r List.mem_cons_self, (D.k r List.mem_cons_self).1, (D.k r List.mem_cons_self).2⟩
end Pg
namespace Pg
open PySem PySem.Spec PyProof.Rows L2
theorem LB.pt {h : Rat} {n : Int} (k : Rk 31 h) (n0 : n ≠ 0) (n9 : n.natAbs ≤ 9) : LB 31 200 9 [⟨h, h, n⟩] [(h, n, 0)] := by
  have ok : RowsOk [(⟨h, h, n⟩ : Rw)] := fun q m => (by rw [List.mem_singleton.mp m]; exact Rat.le_refl)
  exact (LB.of (n := 1) (m := 9) (w := 9) ((tells_pt n0).of ok) ok (fun q m => (by rw [List.mem_singleton.mp m]; exact ⟨k, k⟩)) (Nat.le_refl _) (fun q m => (by rw [List.mem_singleton.mp m]; exact n9)) (by omega) (by decide)).up (by decide) (by omega) (by decide)
end Pg
set_option exponentiation.threshold 2000

namespace Qk35
open PySem PySem.Spec PyProof.Rows L2 Pg
/-! ### the text -/
abbrev kOf {K : PySem.W.Frag} {h : Heap} (_ : K.In h) : PySem.W.Frag := K
def topS (i : Nat) : Stmt := PySem.Challenge.pw_plateheaps_k35_steps_put_together.main.body.getD i (.Pass ⟨0, 0, 0, 0⟩)
abbrev s_p_is_number : Stmt := topS 6
abbrev N_p_is_number : List Str := ["value"]
theorem sc_p_is_number : FnScope N_p_is_number ["value"] (defScope s_p_is_number) := ⟨rfl, rfl, rfl, by decide +kernel, rfl, by decide +kernel, by decide +kernel⟩
abbrev s_p_is_row_of_numbers : Stmt := topS 7
abbrev N_p_is_row_of_numbers : List Str := ["value", "many", "one"]
theorem sc_p_is_row_of_numbers : FnScope N_p_is_row_of_numbers ["value", "many"] (defScope s_p_is_row_of_numbers) := ⟨rfl, rfl, rfl, by decide +kernel, rfl, by decide +kernel, by decide +kernel⟩
abbrev s_p_fraction : Stmt := topS 8
abbrev N_p_fraction : List Str := ["p", "q", "divisor"]
theorem sc_p_fraction : FnScope N_p_fraction ["p", "q"] (defScope s_p_fraction) := ⟨rfl, rfl, rfl, by decide +kernel, rfl, by decide +kernel, by decide +kernel⟩
abbrev s_p_is_fraction : Stmt := topS 9
abbrev N_p_is_fraction : List Str := ["value"]
theorem sc_p_is_fraction : FnScope N_p_is_fraction ["value"] (defScope s_p_is_fraction) := ⟨rfl, rfl, rfl, by decide +kernel, rfl, by decide +kernel, by decide +kernel⟩
abbrev s_p_common_of : Stmt := topS 10
abbrev N_p_common_of : List Str := ["numbers", "found", "n"]
theorem sc_p_common_of : FnScope N_p_common_of ["numbers"] (defScope s_p_common_of) := ⟨rfl, rfl, rfl, by decide +kernel, rfl, by decide +kernel, by decide +kernel⟩
abbrev s_p_ascending : Stmt := topS 11
abbrev N_p_ascending : List Str := ["fractions", "once", "common", "one", "key", "p", "q"]
theorem sc_p_ascending : FnScope N_p_ascending ["fractions"] (defScope s_p_ascending) := ⟨rfl, rfl, rfl, by decide +kernel, rfl, by decide +kernel, by decide +kernel⟩
abbrev s_p_plus : Stmt := topS 12
abbrev N_p_plus : List Str := ["s", "t"]
theorem sc_p_plus : FnScope N_p_plus ["s", "t"] (defScope s_p_plus) := ⟨rfl, rfl, rfl, by decide +kernel, rfl, by decide +kernel, by decide +kernel⟩
abbrev s_p_is_less : Stmt := topS 13
abbrev N_p_is_less : List Str := ["s", "t"]
theorem sc_p_is_less : FnScope N_p_is_less ["s", "t"] (defScope s_p_is_less) := ⟨rfl, rfl, rfl, by decide +kernel, rfl, by decide +kernel, by decide +kernel⟩
abbrev s_p_behinds_ahead : Stmt := topS 15
abbrev N_p_behinds_ahead : List Str := ["steps", "height", "at", "behind"]
theorem sc_p_behinds_ahead : FnScope N_p_behinds_ahead ["steps"] (defScope s_p_behinds_ahead) := ⟨rfl, rfl, rfl, by decide +kernel, rfl, by decide +kernel, by decide +kernel⟩
abbrev s_p_in_form : Stmt := topS 16
abbrev N_p_in_form : List Str := ["entries", "found", "entry", "ahead"]
theorem sc_p_in_form : FnScope N_p_in_form ["entries"] (defScope s_p_in_form) := ⟨rfl, rfl, rfl, by decide +kernel, rfl, by decide +kernel, by decide +kernel⟩
abbrev s_p_is_stretch : Stmt := topS 17
abbrev N_p_is_stretch : List Str := ["value"]
theorem sc_p_is_stretch : FnScope N_p_is_stretch ["value"] (defScope s_p_is_stretch) := ⟨rfl, rfl, rfl, by decide +kernel, rfl, by decide +kernel, by decide +kernel⟩
abbrev s_p_steps_of : Stmt := topS 18
abbrev N_p_steps_of : List Str := ["rows", "height", "begins", "ends", "number", "row", "found", "look", "at"]
theorem sc_p_steps_of : FnScope N_p_steps_of ["rows"] (defScope s_p_steps_of) := ⟨rfl, rfl, rfl, by decide +kernel, rfl, by decide +kernel, by decide +kernel⟩
abbrev s_p_looks_at : Stmt := topS 19
abbrev N_p_looks_at : List Str := ["steps", "height", "look", "here", "at", "behind"]
theorem sc_p_looks_at : FnScope N_p_looks_at ["steps", "height"] (defScope s_p_looks_at) := ⟨rfl, rfl, rfl, by decide +kernel, rfl, by decide +kernel, by decide +kernel⟩
abbrev s_p_step_sum : Stmt := topS 20
abbrev N_p_step_sum : List Str := ["steps", "height", "at", "behind"]
theorem sc_p_step_sum : FnScope N_p_step_sum ["steps"] (defScope s_p_step_sum) := ⟨rfl, rfl, rfl, by decide +kernel, rfl, by decide +kernel, by decide +kernel⟩
abbrev s_p_added_steps : Stmt := topS 21
abbrev N_p_added_steps : List Str := ["one", "other", "found", "height", "mine", "yours", "entry"]
theorem sc_p_added_steps : FnScope N_p_added_steps ["one", "other"] (defScope s_p_added_steps) := ⟨rfl, rfl, rfl, by decide +kernel, rfl, by decide +kernel, by decide +kernel⟩
abbrev s_p_mirrored_steps : Stmt := topS 22
abbrev N_p_mirrored_steps : List Str := ["steps", "found", "ahead", "here", "at", "behind"]
theorem sc_p_mirrored_steps : FnScope N_p_mirrored_steps ["steps"] (defScope s_p_mirrored_steps) := ⟨rfl, rfl, rfl, by decide +kernel, rfl, by decide +kernel, by decide +kernel⟩
abbrev s_p_stretches : Stmt := topS 23
abbrev N_p_stretches : List Str := ["steps", "found", "k", "ahead", "row", "height", "at", "behind"]
theorem sc_p_stretches : FnScope N_p_stretches ["steps"] (defScope s_p_stretches) := ⟨rfl, rfl, rfl, by decide +kernel, rfl, by decide +kernel, by decide +kernel⟩
abbrev s_p_put_steps : Stmt := topS 24
abbrev N_p_put_steps : List Str := ["one", "other", "found", "low", "high", "weight", "bottom", "top", "times"]
theorem sc_p_put_steps : FnScope N_p_put_steps ["one", "other"] (defScope s_p_put_steps) := ⟨rfl, rfl, rfl, by decide +kernel, rfl, by decide +kernel, by decide +kernel⟩
abbrev s_p_tops_of : Stmt := topS 25
abbrev N_p_tops_of : List Str := ["steps", "height", "at", "behind"]
theorem sc_p_tops_of : FnScope N_p_tops_of ["steps"] (defScope s_p_tops_of) := ⟨rfl, rfl, rfl, by decide +kernel, rfl, by decide +kernel, by decide +kernel⟩
abbrev s_l_open_cells : Stmt := topS 27
abbrev N_l_open_cells : List Str := ["_law_script", "_law_mixed", "_law_cell", "_law_digits"]
theorem sc_l_open_cells : FnScope N_l_open_cells ["_law_script"] (defScope s_l_open_cells) := ⟨rfl, rfl, rfl, by decide +kernel, rfl, by decide +kernel, by decide +kernel⟩
abbrev s_l_pick : Stmt := topS 28
abbrev N_l_pick : List Str := ["_law_source", "_law_most", "_law_digits", "_law_left", "_law_laps", "_law_mixed"]
theorem sc_l_pick : FnScope N_l_pick ["_law_source", "_law_most"] (defScope s_l_pick) := ⟨rfl, rfl, rfl, by decide +kernel, rfl, by decide +kernel, by decide +kernel⟩
abbrev s_l_common : Stmt := topS 29
abbrev N_l_common : List Str := ["_law_a", "_law_b"]
theorem sc_l_common : FnScope N_l_common ["_law_a", "_law_b"] (defScope s_l_common) := ⟨rfl, rfl, rfl, by decide +kernel, rfl, by decide +kernel, by decide +kernel⟩
abbrev s_l_fraction : Stmt := topS 30
abbrev N_l_fraction : List Str := ["_law_p", "_law_q", "_law_n"]
theorem sc_l_fraction : FnScope N_l_fraction ["_law_p", "_law_q"] (defScope s_l_fraction) := ⟨rfl, rfl, rfl, by decide +kernel, rfl, by decide +kernel, by decide +kernel⟩
abbrev s_l_below : Stmt := topS 31
abbrev N_l_below : List Str := ["_law_s", "_law_t"]
theorem sc_l_below : FnScope N_l_below ["_law_s", "_law_t"] (defScope s_l_below) := ⟨rfl, rfl, rfl, by decide +kernel, rfl, by decide +kernel, by decide +kernel⟩
abbrev s_l_choice_of : Stmt := topS 32
abbrev N_l_choice_of : List Str := ["_law_source", "_law_things"]
theorem sc_l_choice_of : FnScope N_l_choice_of ["_law_source", "_law_things"] (defScope s_l_choice_of) := ⟨rfl, rfl, rfl, by decide +kernel, rfl, by decide +kernel, by decide +kernel⟩
abbrev s_l_ordered : Stmt := topS 33
abbrev N_l_ordered : List Str := ["_law_heights", "_law_found", "_law_h", "_law_ahead", "_law_one"]
theorem sc_l_ordered : FnScope N_l_ordered ["_law_heights"] (defScope s_l_ordered) := ⟨rfl, rfl, rfl, by decide +kernel, rfl, by decide +kernel, by decide +kernel⟩
abbrev s_l_value : Stmt := topS 34
abbrev N_l_value : List Str := ["_law_rows", "_law_h", "_law_low", "_law_high", "_law_weight"]
theorem sc_l_value : FnScope N_l_value ["_law_rows", "_law_h"] (defScope s_l_value) := ⟨rfl, rfl, rfl, by decide +kernel, rfl, by decide +kernel, by decide +kernel⟩
abbrev s_l_midway : Stmt := topS 35
abbrev N_l_midway : List Str := ["_law_s", "_law_t"]
theorem sc_l_midway : FnScope N_l_midway ["_law_s", "_law_t"] (defScope s_l_midway) := ⟨rfl, rfl, rfl, by decide +kernel, rfl, by decide +kernel, by decide +kernel⟩
abbrev s_l_gaps : Stmt := topS 36
abbrev N_l_gaps : List Str := ["_law_heights", "_law_found", "_law_s", "_law_t", "_law_h"]
theorem sc_l_gaps : FnScope N_l_gaps ["_law_heights"] (defScope s_l_gaps) := ⟨rfl, rfl, rfl, by decide +kernel, rfl, by decide +kernel, by decide +kernel⟩
abbrev s_l_steps : Stmt := topS 37
abbrev N_l_steps : List Str := ["_law_values", "_law_found", "_law_ahead", "_law_height", "_law_at", "_law_behind"]
theorem sc_l_steps : FnScope N_l_steps ["_law_values"] (defScope s_l_steps) := ⟨rfl, rfl, rfl, by decide +kernel, rfl, by decide +kernel, by decide +kernel⟩
abbrev s_l_steps_of : Stmt := topS 38
abbrev N_l_steps_of : List Str := ["_law_rows", "_law_heights", "_law_row", "_law_h", "_law_gap"]
theorem sc_l_steps_of : FnScope N_l_steps_of ["_law_rows"] (defScope s_l_steps_of) := ⟨rfl, rfl, rfl, by decide +kernel, rfl, by decide +kernel, by decide +kernel⟩
abbrev s_l_draw_stretches : Stmt := topS 39
abbrev N_l_draw_stretches : List Str := ["_law_source", "_law_most", "_law_lap", "_law_found", "_law_ends", "_law_n", "_law_one", "_law_other", "_law_low", "_law_high"]
theorem sc_l_draw_stretches : FnScope N_l_draw_stretches ["_law_source", "_law_most"] (defScope s_l_draw_stretches) := ⟨rfl, rfl, rfl, by decide +kernel, rfl, by decide +kernel, by decide +kernel⟩
abbrev s_l_plus : Stmt := topS 40
abbrev N_l_plus : List Str := ["_law_s", "_law_t"]
theorem sc_l_plus : FnScope N_l_plus ["_law_s", "_law_t"] (defScope s_l_plus) := ⟨rfl, rfl, rfl, by decide +kernel, rfl, by decide +kernel, by decide +kernel⟩
abbrev s_l_shifted : Stmt := topS 41
abbrev N_l_shifted : List Str := ["_law_rows", "_law_h", "_law_low", "_law_high", "_law_weight"]
theorem sc_l_shifted : FnScope N_l_shifted ["_law_rows", "_law_h"] (defScope s_l_shifted) := ⟨rfl, rfl, rfl, by decide +kernel, rfl, by decide +kernel, by decide +kernel⟩
abbrev s_l_moved : Stmt := topS 42
abbrev N_l_moved : List Str := ["_law_rows", "_law_others", "_law_found", "_law_low", "_law_high", "_law_weight", "_law_one", "_law_other", "_law_n"]
theorem sc_l_moved : FnScope N_l_moved ["_law_rows", "_law_others"] (defScope s_l_moved) := ⟨rfl, rfl, rfl, by decide +kernel, rfl, by decide +kernel, by decide +kernel⟩
abbrev s_l_pairs : Stmt := topS 43
abbrev N_l_pairs : List Str := ["_law_rows", "_law_others", "_law_found", "_law_low", "_law_high", "_law_weight", "_law_a", "_law_b", "_law_n"]
theorem sc_l_pairs : FnScope N_l_pairs ["_law_rows", "_law_others"] (defScope s_l_pairs) := ⟨rfl, rfl, rfl, by decide +kernel, rfl, by decide +kernel, by decide +kernel⟩
abbrev s_l_right : Stmt := topS 44
abbrev N_l_right : List Str := ["_law_rows", "_law_others", "_law_more", "_law_told", "_law_one", "_law_other", "_law_last", "_law_some"]
theorem sc_l_right : FnScope N_l_right ["_law_rows", "_law_others", "_law_more"] (defScope s_l_right) := ⟨rfl, rfl, rfl, by decide +kernel, rfl, by decide +kernel, by decide +kernel⟩
abbrev s_l_ends_right : Stmt := topS 45
abbrev N_l_ends_right : List Str := ["_law_one", "_law_other", "_law_highs", "_law_last", "_law_mate", "_law_steps_here"]
theorem sc_l_ends_right : FnScope N_l_ends_right ["_law_one", "_law_other"] (defScope s_l_ends_right) := ⟨rfl, rfl, rfl, by decide +kernel, rfl, by decide +kernel, by decide +kernel⟩
abbrev s_law : Stmt := topS 46
abbrev N_law : List Str := ["_law_script", "_law_source", "_law_lap", "_law_one", "_law_back", "_law_rows", "_law_others", "_law_more", "_law_low", "_law_high", "_law_weight", "_law_turn"]
theorem sc_law : FnScope N_law ["_law_script"] (defScope s_law) := ⟨rfl, rfl, rfl, by decide +kernel, rfl, by decide +kernel, by decide +kernel⟩
local macro_rules | `(tactic| walk_at "1") => `(tactic| refine ⟨(show Shw _ by assumption), ?_⟩)
local macro_rules | `(tactic| walk_at "1") => `(tactic| with_reducible refine Or.inr (Or.inr ⟨_, _, rfl, rfl, ?_⟩))
local macro_rules | `(tactic| walk_at "1") => `(tactic| refine Or.inl ⟨(show SeqAt.shaped _ = true by decide +kernel), (show SeqAt.shaped _ = true by decide +kernel), ?_⟩)
local macro_rules | `(tactic| walk_at "1") => `(tactic| refine Or.inl ⟨(show SeqAt.shaped _ = true from rfl), (show SeqAt.shaped _ = true from rfl), ?_⟩)
local macro_rules | `(tactic| walk_at "1") => `(tactic| refine ⟨(show SeqAt.shaped _ = true from rfl), (show SeqAt.shaped _ = true from rfl), ?_⟩)
local macro_rules | `(tactic| walk_at "1") => `(tactic| refine ⟨_, Or.inl rfl, (show SeqAt.shaped _ = true from rfl), (show SeqAt.shaped _ = true from rfl), ?_⟩)
local macro_rules | `(tactic| walk_at "1") => `(tactic| refine ⟨(show CPow _ _ from ⟨by decide, by decide, by decide⟩), ?_⟩)
local macro_rules | `(tactic| walk_at "1") => `(tactic| refine ⟨(show MlOk _ _ from .l (by decide) (by decide)), ?_⟩)
local macro_rules | `(tactic| walk_at "1") => `(tactic| refine ⟨(show MlOk _ _ from .r (by decide) (by decide)), ?_⟩)
local macro_rules | `(tactic| walk_at "1") => `(tactic| refine ⟨(show ModOk _ _ by assumption), ?_⟩)
local macro_rules | `(tactic| walk_at "1") => `(tactic| refine ⟨(show DivOk _ _ by assumption), ?_⟩)
local macro_rules | `(tactic| walk_at "1") => `(tactic| refine ⟨(show MlOk _ _ by assumption), ?_⟩)
local macro_rules | `(tactic| walk_at "1") => `(tactic| refine ⟨Nat.le_of_ble_eq_true rfl, ?_⟩)
local macro_rules | `(tactic| walk_at "1") => `(tactic| with_reducible refine ⟨fun (zf : false = true) => Bool.noConfusion zf, fun (_ : false = false) => ?_⟩)
local macro_rules | `(tactic| walk_at "1") => `(tactic| with_reducible refine ⟨fun (_ : true = true) => ?_, fun (zf : true = false) => Bool.noConfusion zf⟩)
local macro_rules | `(tactic| walk_at "1") => `(tactic| refine ⟨_, _, _, rfl, rfl, rfl, ?_⟩)
local macro_rules | `(tactic| walk_at "1") => `(tactic| with_reducible refine Or.inr ⟨_, _, rfl, rfl, ?_⟩)
local macro_rules | `(tactic| walk_at "1") => `(tactic| with_reducible refine Or.inl ⟨_, _, rfl, rfl, ?_⟩)
local macro_rules | `(tactic| walk_at "1") => `(tactic| with_reducible refine Or.inr ⟨_, rfl, ?_⟩)
local macro_rules | `(tactic| walk_at "1") => `(tactic| with_reducible refine Or.inl ⟨_, rfl, ?_⟩)
local macro_rules | `(tactic| walk_at "1") => `(tactic| with_reducible refine ⟨_, _, _, rfl, ?_⟩)
local macro_rules | `(tactic| walk_at "1") => `(tactic| with_reducible refine ⟨_, _, rfl, ?_⟩)
local macro_rules | `(tactic| walk_at "1") => `(tactic| with_reducible refine ⟨_, _, rfl, rfl, ?_⟩)
local macro_rules | `(tactic| walk_at "1") => `(tactic| with_reducible refine ⟨_, rfl, ?_⟩)
local macro_rules | `(tactic| walk_at "1") => `(tactic| with_reducible refine b_yes ?_)
local macro_rules | `(tactic| walk_at "1") => `(tactic| with_reducible refine b_not ?_)
local macro_rules | `(tactic| walk_at "1") => `(tactic| with_reducible refine b_or ?_)
local macro_rules | `(tactic| walk_at "1") => `(tactic| with_reducible refine b_and ?_)
local macro_rules | `(tactic| walk_at "1") => `(tactic| with_reducible refine b_val ?_)
local macro_rules | `(tactic| walk_at "1") => `(tactic| with_reducible refine b_test ?_)
local macro_rules | `(tactic| walk_at "1") => `(tactic| with_reducible refine v_go ?_)
local macro_rules | `(tactic| walk_at "1") => `(tactic| with_reducible refine v_common ?_)
local macro_rules | `(tactic| walk_at "1") => `(tactic| ((with_reducible refine' v_pick ?vv ?_); (case vv => rfl)))
local macro_rules | `(tactic| walk_at "1") => `(tactic| ((with_reducible refine' v_draw ?vv ?_); (case vv => rfl)))
local macro_rules | `(tactic| walk_at "1") => `(tactic| with_reducible refine v_cb cd_sum ?_)
local macro_rules | `(tactic| walk_at "1") => `(tactic| with_reducible refine v_cb cd_any ?_)
local macro_rules | `(tactic| walk_at "1") => `(tactic| with_reducible refine v_cb cd_all ?_)
local macro_rules | `(tactic| walk_at "1") => `(tactic| with_reducible refine v_cb cd_min ?_)
local macro_rules | `(tactic| walk_at "1") => `(tactic| with_reducible refine v_cb cd_max ?_)
local macro_rules | `(tactic| walk_at "1") => `(tactic| with_reducible refine v_cb cd_len ?_)
local macro_rules | `(tactic| walk_at "1") => `(tactic| with_reducible refine v_cb cd_repr ?_)
local macro_rules | `(tactic| walk_at "1") => `(tactic| with_reducible refine v_cb cd_gcd3 ?_)
local macro_rules | `(tactic| walk_at "1") => `(tactic| with_reducible refine v_cb cd_gcd ?_)
local macro_rules | `(tactic| walk_at "1") => `(tactic| with_reducible refine v_cb cd_intB ?_)
local macro_rules | `(tactic| walk_at "1") => `(tactic| with_reducible refine v_cb cd_abs ?_)
local macro_rules | `(tactic| walk_at "1") => `(tactic| ((with_reducible refine' v_isin ?vv ?_); (case vv => constructor)))
local macro_rules | `(tactic| walk_at "1") => `(tactic| with_reducible refine s_ownD ?_)
local macro_rules | `(tactic| walk_at "1") => `(tactic| with_reducible refine v_cb cd_lenX ?_)
local macro_rules | `(tactic| walk_at "1") => `(tactic| with_reducible refine v_op od_inX ?_)
local macro_rules | `(tactic| walk_at "1") => `(tactic| with_reducible refine v_listItemsX ?_)
local macro_rules | `(tactic| walk_at "1") => `(tactic| with_reducible refine v_op od_repT ?_)
local macro_rules | `(tactic| walk_at "1") => `(tactic| with_reducible refine v_op od_eqNT ?_)
local macro_rules | `(tactic| walk_at "1") => `(tactic| with_reducible refine v_revT ?_)
local macro_rules | `(tactic| walk_at "1") => `(tactic| with_reducible refine v_rev ?_)
local macro_rules | `(tactic| walk_at "1") => `(tactic| with_reducible refine v_dict0 ?_)
local macro_rules | `(tactic| walk_at "1") => `(tactic| with_reducible refine v_lst ?_)
local macro_rules | `(tactic| walk_at "1") => `(tactic| with_reducible refine v_tup ?_)
local macro_rules | `(tactic| walk_at "1") => `(tactic| with_reducible refine v_not ?_)
local macro_rules | `(tactic| walk_at "1") => `(tactic| with_reducible refine v_or ?_)
local macro_rules | `(tactic| walk_at "1") => `(tactic| with_reducible refine v_and ?_)
local macro_rules | `(tactic| walk_at "1") => `(tactic| with_reducible refine v_if ?_)
local macro_rules | `(tactic| walk_at "1") => `(tactic| with_reducible refine v_neg ?_)
local macro_rules | `(tactic| walk_at "1") => `(tactic| ((with_reducible refine' g_lst ?vv ?_); (case vv => rfl)))
local macro_rules | `(tactic| walk_at "1") => `(tactic| with_reducible refine o_some ?_)
local macro_rules | `(tactic| walk_at "1") => `(tactic| with_reducible refine o_none ?_)
local macro_rules | `(tactic| walk_at "1") => `(tactic| with_reducible refine v_op od_catA ?_)
local macro_rules | `(tactic| walk_at "1") => `(tactic| with_reducible refine v_cb cd_listT ?_)
local macro_rules | `(tactic| walk_at "1") => `(tactic| with_reducible refine v_cb cd_tupleL ?_)
local macro_rules | `(tactic| walk_at "1") => `(tactic| with_reducible refine v_cutA ?_)
local macro_rules | `(tactic| walk_at "1") => `(tactic| with_reducible refine v_cutT ?_)
local macro_rules | `(tactic| walk_at "1") => `(tactic| with_reducible refine v_cutL ?_)
local macro_rules | `(tactic| walk_at "1") => `(tactic| with_reducible refine v_chain (od_or od_eq (od_or od_eqNil od_eqStr)) (od_or od_eq (od_or od_eqNil od_eqStr)) ?_)
local macro_rules | `(tactic| walk_at "1") => `(tactic| with_reducible refine v_op od_in ?_)
local macro_rules | `(tactic| walk_at "1") => `(tactic| with_reducible refine v_cb cd_max3 ?_)
local macro_rules | `(tactic| walk_at "1") => `(tactic| with_reducible refine Or.inl ⟨(rfl : PyData.none = PyData.none), ?_⟩)
local macro_rules | `(tactic| walk_at "1") => `(tactic| with_reducible refine v_op (od_or od_notN od_notB) ?_)
local macro_rules | `(tactic| walk_at "1") => `(tactic| with_reducible refine v_op (od_or od_isN od_isB) ?_)
local macro_rules | `(tactic| walk_at "1") => `(tactic| with_reducible refine v_op (od_or od_I od_rep) ?_)
local macro_rules | `(tactic| walk_at "1") => `(tactic| with_reducible refine v_op (od_or od_I0 od_cat) ?_)
local macro_rules | `(tactic| walk_at "1") => `(tactic| with_reducible refine v_op (od_or od_ne od_neStr) ?_)
local macro_rules | `(tactic| walk_at "1") => `(tactic| with_reducible refine v_op (od_or od_eq (od_or od_eqNil od_eqStr)) ?_)
local macro_rules | `(tactic| walk_at "1") => `(tactic| with_reducible refine v_op od_ix ?_)
local macro_rules | `(tactic| walk_at "1") => `(tactic| with_reducible refine v_op od_I ?_)
local macro_rules | `(tactic| walk_at "1") => `(tactic| with_reducible refine v_op (od_or od_I0b od_ltT) ?_)
local macro_rules | `(tactic| walk_at "1") => `(tactic| with_reducible refine v_op (od_or od_I0 od_subB) ?_)
local macro_rules | `(tactic| walk_at "1") => `(tactic| with_reducible refine v_op od_I0b ?_)
local macro_rules | `(tactic| walk_at "1") => `(tactic| with_reducible refine v_op od_I0 ?_)
local macro_rules | `(tactic| walk_at "1") => `(tactic| with_reducible refine v_op od_neOb ?_)
local macro_rules | `(tactic| walk_at "1") => `(tactic| ((with_reducible refine' s_augO od_ownI ?vv ?_); (case vv => rfl)))
local macro_rules | `(tactic| walk_at "1") => `(tactic| ((with_reducible refine' s_augO od_own2 ?vv ?_); (case vv => rfl)))
local macro_rules | `(tactic| walk_at "1") => `(tactic| with_reducible refine v_cb cd_lenO ?_)
local macro_rules | `(tactic| walk_at "1") => `(tactic| with_reducible refine v_op od_ownV ?_)
local macro_rules | `(tactic| walk_at "1") => `(tactic| with_reducible refine v_op od_own2N ?_)
local macro_rules | `(tactic| walk_at "1") => `(tactic| with_reducible refine v_isO kit_self ?_)
local macro_rules | `(tactic| walk_at "1") => `(tactic| with_reducible refine v_cb cd_dictX ?_)
local macro_rules | `(tactic| walk_at "1") => `(tactic| with_reducible refine v_op od_eqDX ?_)
local macro_rules | `(tactic| walk_at "1") => `(tactic| with_reducible refine v_op od_Iown ?_)
local macro_rules | `(tactic| walk_at "1") => `(tactic| with_reducible refine v_op od_ownI ?_)
local macro_rules | `(tactic| walk_at "1") => `(tactic| with_reducible refine v_op od_own2 ?_)
local macro_rules | `(tactic| walk_at "1") => `(tactic| with_reducible refine v_sumValsX ?_)
local macro_rules | `(tactic| walk_at "1") => `(tactic| with_reducible refine v_metH (by decide +kernel) ?_)
local macro_rules | `(tactic| walk_at "1") => `(tactic| with_reducible refine v_fldH (by assumption) ?_)
local macro_rules | `(tactic| walk_at "1") => `(tactic| with_reducible refine v_mk (by assumption) ?_)
local macro_rules | `(tactic| walk_at "1") => `(tactic| with_reducible refine s_ownDL ?_)
local macro_rules | `(tactic| walk_at "1") => `(tactic| with_reducible refine a_star ?_)
local macro_rules | `(tactic| walk_at "1") => `(tactic| with_reducible refine a_nil ?_)
local macro_rules | `(tactic| walk_at "1") => `(tactic| with_reducible refine a_cons ?_)
local macro_rules | `(tactic| walk_at "1") => `(tactic| with_reducible refine v_frz3 (by assumption) ?_)
local macro_rules | `(tactic| walk_at "1") => `(tactic| with_reducible refine v_frz2 (by assumption) ?_)
local macro_rules | `(tactic| walk_at "1") => `(tactic| ((with_reducible refine' v_var ?vv ?_); (case vv => rfl)))
local macro_rules | `(tactic| walk_at "1") => `(tactic| with_reducible refine v_non ?_)
local macro_rules | `(tactic| walk_at "1") => `(tactic| with_reducible refine v_str ?_)
local macro_rules | `(tactic| walk_at "1") => `(tactic| with_reducible refine v_bl ?_)
local macro_rules | `(tactic| walk_at "1") => `(tactic| with_reducible refine v_int ?_)
local macro_rules | `(tactic| walk_at "1") => `(tactic| with_reducible refine gs_nil ?_)
local macro_rules | `(tactic| walk_at "1") => `(tactic| with_reducible refine gs_cons ?_)
local macro_rules | `(tactic| walk_at "1") => `(tactic| ((with_reducible refine' g_tup ?vv ?_); (case vv => rfl)))
local macro_rules | `(tactic| walk_at "1") => `(tactic| with_reducible refine g_name ?_)
local macro_rules | `(tactic| walk_at "1") => `(tactic| ((with_reducible refine' s_aug ?vv ?_); (case vv => rfl)))
local macro_rules | `(tactic| walk_at "1") => `(tactic| with_reducible refine s_cont ?_)
local macro_rules | `(tactic| walk_at "1") => `(tactic| with_reducible refine s_brk ?_)
local macro_rules | `(tactic| walk_at "1") => `(tactic| with_reducible refine s_drop ?_)
local macro_rules | `(tactic| walk_at "1") => `(tactic| ((with_reducible refine' s_push ?vv ?_); (case vv => rfl)))
local macro_rules | `(tactic| walk_at "1") => `(tactic| with_reducible refine s_par3 ?_)
local macro_rules | `(tactic| walk_at "1") => `(tactic| with_reducible refine s_par ?_)
local macro_rules | `(tactic| walk_at "1") => `(tactic| with_reducible refine s_asg ?_)
local macro_rules | `(tactic| walk_at "1") => `(tactic| with_reducible refine s_ownL ?_)
local macro_rules | `(tactic| walk_at "1") => `(tactic| with_reducible refine s_if ?_)
local macro_rules | `(tactic| walk_at "1") => `(tactic| with_reducible refine s_chk ?_ ?_)
local macro_rules | `(tactic| walk_at "1") => `(tactic| with_reducible refine s_retN ?_)
local macro_rules | `(tactic| walk_at "1") => `(tactic| with_reducible refine s_ret ?_)
local macro_rules | `(tactic| walk_at "1") => `(tactic| with_reducible refine s_next ?_)
local macro_rules | `(tactic| walk_at "1") => `(tactic| with_reducible refine s_seq ?_)
local macro_rules | `(tactic| walk_at "go") => `(tactic| repeat walk_at "1")
section
variable {P : Program} {w : World} {K : PySem.W.Frag} {mg : Str → Option Value} {base : Heap}
/-- what the module's names of built-ins hold -/
structure Bi (K : PySem.W.Frag) (mg : Str → Option Value) : Prop where
  b_abs : mg "abs" = none
  b_all : mg "all" = none
  b_bool : mg "bool" = none
  b_enumerate : mg "enumerate" = none
  b_int : mg "int" = none
  b_isinstance : mg "isinstance" = none
  b_len : mg "len" = none
  b_list : mg "list" = none
  b_range : mg "range" = none
  b_repr : mg "repr" = none
  b_sorted : mg "sorted" = none
  b_sum : mg "sum" = none
  b_tuple : mg "tuple" = none
  b_zip : mg "zip" = none
  b_gcd : mg "gcd" = some (.builtin "math.gcd")
theorem ok_p_is_number (B : Bi K mg) (DF : Df K mg "is_number" s_p_is_number ["value"]) :
    Cal P w K mg base 1 "is_number" ["value"] (spD K gIsNum) := by
  have m_bool := B.b_bool
  have m_int := B.b_int
  have m_isinstance := B.b_isinstance
  refine cal_of DF fun f fd Fu => FnG.dat Fu sc_p_is_number (fun ds R h => ?_) (fun cdv A outer s H E gd hr F hF ds R h => ?_)
  · obtain ⟨d, rfl, h⟩ := h
    rfl
  · obtain ⟨d, rfl, h⟩ := h
    refine ⟨_, (pss_one (ps_ret (pe_and (pe_callB cr_isT (by rfl) m_isinstance (by decide +kernel) (pa_cons (pv 0) (pa_cons (pe_bltn (v := .ty "int") (by rfl) m_int (by decide +kernel) rfl) pa_nil))) (pe_one (pe_not (pe_callB cr_isT (by rfl) m_isinstance (by decide +kernel) (pa_cons (pv 0) (pa_cons (pe_bltn (v := .ty "bool") (by rfl) m_bool (by decide +kernel) rfl) pa_nil)))))))), ?_⟩
    dsimp only [cxOf, Cx.wish, startS, drawS, lawS, N_p_is_number, List.map, List.length, List.replicate, List.append, List.set, List.cons_append, List.nil_append]
    walk_at "go"
    refine ⟨fun e => ?_, fun e => ?_⟩
    · walk_at "go"
      have z : isNum d = !isB d := by simp [isNum, e]
      rw [z] at h
      exact h
    · have z : isNum d = false := by simp [isNum, e]
      rw [z] at h
      exact h
theorem ok_p_is_row_of_numbers (B : Bi K mg) (DF : Df K mg "is_row_of_numbers" s_p_is_row_of_numbers ["value", "many"])
    (C_p_is_number : Cal P w K mg base 1 "is_number" ["value"] (spD K gIsNum)) :
    Cal P w K mg base 2 "is_row_of_numbers" ["value", "many"] (spD K gIsRow) := by
  have m_all := B.b_all
  have m_isinstance := B.b_isinstance
  have m_len := B.b_len
  have m_tuple := B.b_tuple
  refine cal_of DF fun f fd Fu => FnG.dat Fu sc_p_is_row_of_numbers (fun ds R h => ?_) (fun cdv A outer s H E gd hr F hF ds R h => ?_)
  · obtain ⟨d, n, rfl, hx, h⟩ := h
    rfl
  · obtain ⟨d, n, rfl, hx, h⟩ := h
    refine ⟨_, (pss_one (ps_ret (pe_and (pe_callB cr_isT (by rfl) m_isinstance (by decide +kernel) (pa_cons (pv 0) (pa_cons (pe_bltn (v := .ty "tuple") (by rfl) m_tuple (by decide +kernel) rfl) pa_nil))) (pe_and (pe_cmpR (op_eqX hr.units) (pe_callB call_len_seq (by rfl) m_len (by decide +kernel) (pa_cons (pv 0) pa_nil)) (pv 1) (nomark _)) (pe_one (pe_callB (cr_all rfl) (by rfl) m_all (by decide +kernel) (pa_cons (pe_lc (own := [("one", 2)]) (g := gName 2) rfl sc_p_is_row_of_numbers.nd (pi_tup (pv 0)) (blkOk_by (own := [("one", 2)]) (N := N_p_is_row_of_numbers) (sc := defScope s_p_is_row_of_numbers) (by decide +kernel)) (fun _ _ _ _ _ => (pg_name (i := 2) sc_p_is_row_of_numbers.nd rfl (Or.inl rfl))) (fun _ _ _ _ _ => pts_nil) (fun _ _ _ _ _ => (pe_c C_p_is_number (hr.mono (by decide)) gd (by rfl) (pa_cons (pv 2) pa_nil)))) pa_nil))))))), ?_⟩
    dsimp only [cxOf, Cx.wish, startS, drawS, lawS, N_p_is_row_of_numbers, List.map, List.length, List.replicate, List.append, List.set, List.cons_append, List.nil_append]
    walk_at "go"
    refine ⟨fun e => ?_, fun e => ?_⟩
    · obtain ⟨xs, rfl⟩ := isT_tup e
      walk_at "go"
      refine ⟨fun e2 => ?_, fun e2 => ?_⟩
      · walk_at "go"
        refine v_map w_tup (by simp) (fun x => .bool (isNum x)) ?_
        walk_at "go"
        refine ⟨Nat.le_trans (hx _ rfl) (by decide), fun x _ => ?_, ?_⟩
        · dsimp only [wipeS, List.set]
          walk_at "go"
          exact ⟨x, rfl, rfl⟩
        · refine a_nil ⟨xs.map isNum, by rw [List.map_map]; rfl, ?_⟩
          have z : isRow (.tuple xs) n = (xs.map isNum).all id := by
            have e3 : ((xs.length : Int) == n) = true := e2
            show (decide ((xs.length : Int) = n) && xs.all isNum) = _
            rw [decide_eq_true (beq_iff_eq.mp e3), Bool.true_and, List.all_map]
            rfl
          rw [z] at h
          exact h
      · have z : isRow (.tuple xs) n = false := by
          have e3 : ((xs.length : Int) == n) = false := e2
          show (decide ((xs.length : Int) = n) && xs.all isNum) = _
          rw [decide_eq_false (fun z => by rw [beq_iff_eq.mpr z] at e3; cases e3), Bool.false_and]
        rw [z] at h
        exact h
    · have z : isRow d n = false := by
        cases d with
        | tuple xs => cases e
        | _ => rfl
      rw [z] at h
      exact h
theorem ok_p_fraction (B : Bi K mg) (DF : Df K mg "fraction" s_p_fraction ["p", "q"]) :
    Cal P w K mg base 1 "fraction" ["p", "q"] (spD K gFraction) := by
  have m_gcd := B.b_gcd
  refine cal_of DF fun f fd Fu => FnG.dat Fu sc_p_fraction (fun ds R h => ?_) (fun cdv A outer s H E gd hr F hF ds R h => ?_)
  · obtain ⟨p, q, rfl, hq, sp, sq, h⟩ := h
    rfl
  · obtain ⟨p, q, rfl, hq, sp, sq, h⟩ := h
    refine ⟨_, (pss_cons (ps_set (i := 2) sc_p_fraction.nd rfl (.inl rfl) (pe_ifExp (pt_cmpR op_gt (pv 1) pe_int (nomark _)) (pe_callBfun cr_gcd (by rfl) m_gcd (pa_cons (pv 0) (pa_cons (pv 1) pa_nil))) (pe_un un_neg (pe_callBfun cr_gcd (by rfl) m_gcd (pa_cons (pv 0) (pa_cons (pv 1) pa_nil))))))
      (pss_one (ps_ret (pe_tup (pa_cons (pe_op op_fdU (pv 0) (pv 2)) (pa_cons (pe_op op_fdU (pv 1) (pv 2)) pa_nil)))))), ?_⟩
    dsimp only [cxOf, Cx.wish, startS, drawS, lawS, N_p_fraction, List.map, List.length, List.replicate, List.append, List.set, List.cons_append, List.nil_append]
    have d1 := sgn_div p hq sp sq
    have d2 := sgn_div q hq sp sq
    walk_at "go"
    refine ⟨fun e => ?_, fun e => ?_⟩
    · have e1 : ((Nat.gcd p.natAbs q.natAbs : Nat) : Int) = sgn p q := by
        unfold sgn
        rw [if_pos (of_decide_eq_true e)]
      walk_at "go"
      rw [e1]
      walk_at "go"
      exact h
    · have e1 : -((Nat.gcd p.natAbs q.natAbs : Nat) : Int) = sgn p q := by
        unfold sgn
        rw [if_neg (of_decide_eq_false e)]
      walk_at "go"
      rw [e1]
      walk_at "go"
      exact h
theorem ok_p_is_fraction (B : Bi K mg) (DF : Df K mg "is_fraction" s_p_is_fraction ["value"])
    (C_p_is_row_of_numbers : Cal P w K mg base 2 "is_row_of_numbers" ["value", "many"] (spD K gIsRow)) :
    Cal P w K mg base 3 "is_fraction" ["value"] (spD K gIsFraction) := by
  have m_gcd := B.b_gcd
  refine cal_of DF fun f fd Fu => FnG.dat Fu sc_p_is_fraction (fun ds R h => ?_) (fun cdv A outer s H E gd hr F hF ds R h => ?_)
  · obtain ⟨d, rfl, hx, h⟩ := h
    rfl
  · obtain ⟨d, rfl, hx, h⟩ := h
    refine ⟨_, (pss_one (ps_ret (pe_and (pe_c C_p_is_row_of_numbers (hr.mono (by decide)) gd (by rfl) (pa_cons (pv 0) (pa_cons pe_int pa_nil))) (pe_and (pe_cmpR op_gt (pe_ix (ix_seqK (K := K) rfl) (pv 0) pe_int (fun _ _ => rfl)) pe_int (nomark _)) (pe_one (pe_cmpR (op_eqX hr.units) (pe_callBfun cr_gcd (by rfl) m_gcd (pa_cons (pe_ix (ix_seqK (K := K) rfl) (pv 0) pe_int (fun _ _ => rfl)) (pa_cons (pe_ix (ix_seqK (K := K) rfl) (pv 0) pe_int (fun _ _ => rfl)) pa_nil))) pe_int (nomark _))))))), ?_⟩
    dsimp only [cxOf, Cx.wish, startS, drawS, lawS, N_p_is_fraction, List.map, List.length, List.replicate, List.append, List.set, List.cons_append, List.nil_append]
    walk_at "go"
    refine ⟨d, 2, rfl, hx, ?_⟩
    walk_at "go"
    refine ⟨fun e => ?_, fun e => ?_⟩
    · obtain ⟨ns, rfl, hl⟩ := isRow_ints e
      obtain ⟨p, q, rfl⟩ : ∃ p q, ns = [p, q] := by
        match ns, hl with
        | [p, q], _ => exact ⟨p, q, rfl⟩
      walk_at "go"
      refine ⟨fun e2 => ?_, fun e2 => ?_⟩
      · walk_at "go"
        have z : isFrac (fr p q) = (((Nat.gcd p.natAbs q.natAbs : Nat) : Int) == 1) := by
          show (decide (0 < q) && decide (Nat.gcd p.natAbs q.natAbs = 1)) = _
          rw [e2, Bool.true_and, nat_eq_one]
        have h2 : R (.bool (isFrac (fr p q))) := h
        rw [z] at h2
        exact h2
      · have z : isFrac (fr p q) = false := by
          show (decide (0 < q) && decide (Nat.gcd p.natAbs q.natAbs = 1)) = _
          rw [e2, Bool.false_and]
        have h2 : R (.bool (isFrac (fr p q))) := h
        rw [z] at h2
        exact h2
    · have z := isFrac_no e
      rw [z] at h
      exact h
theorem ok_p_common_of (B : Bi K mg) (DF : Df K mg "common_of" s_p_common_of ["numbers"]) :
    Cal P w K mg base 1 "common_of" ["numbers"] (spD K gCommon) := by
  have m_gcd := B.b_gcd
  refine cal_of DF fun f fd Fu => FnG.dat Fu sc_p_common_of (fun ds R h => ?_) (fun cdv A outer s H E gd hr F hF ds R h => ?_)
  · obtain ⟨ns, B, rfl, hl, hB, lB, hn, h⟩ := h
    rfl
  · obtain ⟨ns, B, rfl, hl, hB, lB, hn, h⟩ := h
    refine ⟨_, (pss_cons (ps_set (i := 1) sc_p_common_of.nd rfl (.inl rfl) pe_int)
      (pss_cons (ps_for PassesOwn.never rfl (pi_list (pv 0)) (pg_name (i := 2) sc_p_common_of.nd rfl (Or.inl rfl))
        (pss_one (ps_set (i := 1) sc_p_common_of.nd rfl (.inl rfl) (pe_op op_mulX (pv 1) (pe_op op_fdU (pv 2) (pe_callBfun cr_gcd (by rfl) m_gcd (pa_cons (pv 1) (pa_cons (pv 2) pa_nil))))))))
      (pss_one (ps_ret (pv 1))))), ?_⟩
    dsimp only [cxOf, Cx.wish, startS, drawS, lawS, N_p_common_of, List.map, List.length, List.replicate, List.append, List.set, List.cons_append, List.nil_append]
    walk_at "go"
    refine s_for w_list ?_
    walk_at "go"
    refine ⟨fun i δ' => ∃ (m : Int) (x : Sl), 0 < m ∧ m ∣ B ∧ (∀ n ∈ ns.take i, n ∣ m) ∧ δ' = [.dat (.list (ns.map .int)), .dat (.int m), x], ⟨1, .no, by decide, Int.one_dvd B, fun n m => (by cases m), rfl⟩, fun i u δ' hi I => ?_, fun δ' I => ?_⟩
    · obtain ⟨m, x, m0, mB, mn, rfl⟩ := I
      rw [List.getElem?_map] at hi
      obtain ⟨n, hn', rfl⟩ := Option.map_eq_some_iff.mp hi
      obtain ⟨n0, nB⟩ := hn n (List.mem_of_getElem? hn')
      obtain ⟨d1, d2, d3, d4, d5, d6⟩ := lcm_step m0 n0 mB nB hB lB
      walk_at "go"
      refine ⟨_, _, d3, d4, fun z mz => ?_, rfl⟩
      rw [take_upA hn'] at mz
      rcases List.mem_append.mp mz with mz | mz
      · exact Int.dvd_trans (mn z mz) d5
      · rw [List.mem_singleton.mp mz]
        exact d6
    · obtain ⟨m, x, m0, mB, mn, rfl⟩ := I
      rw [List.length_map, List.take_length] at mn
      walk_at "go"
      exact h m m0 mB mn
theorem ok_p_ascending (B : Bi K mg) (DF : Df K mg "ascending" s_p_ascending ["fractions"])
    (C_p_common_of : Cal P w K mg base 1 "common_of" ["numbers"] (spD K gCommon)) :
    Cal P w K mg base 2 "ascending" ["fractions"] (spD K gAscF) := by
  have m_list := B.b_list
  have m_sorted := B.b_sorted
  refine cal_of DF fun f fd Fu => FnG.dat Fu sc_p_ascending (fun ds R h => ?_) (fun cdv A outer s H E gd hr F hF ds R h => ?_)
  · obtain ⟨S, d, B, rfl, ed, hl, hB, h⟩ := h
    rfl
  · obtain ⟨S, d, B, rfl, ed, hl, hB, h⟩ := h
    refine ⟨_, (pss_cons (ps_set (i := 1) sc_p_ascending.nd rfl (.inl rfl) (pe_callTy (cr_listX rfl) (by rfl) m_list (by decide +kernel) (pa_cons (pe_dcX (own := [("one", 3)]) (g := gName 3) hr.units rfl sc_p_ascending.nd (pi_ltx (pv 0)) (blkOk_by (own := [("one", 3)]) (N := N_p_ascending) (sc := defScope s_p_ascending) (by decide +kernel)) ⟨fun _ _ _ _ _ => (pg_name (i := 3) sc_p_ascending.nd rfl (Or.inl rfl)), (fun _ _ _ _ _ => pts_nil), fun _ _ _ _ _ => (pv 3), fun _ _ _ _ _ => pe_bl⟩) pa_nil)))
      (pss_cons (ps_set (i := 2) sc_p_ascending.nd rfl (.inr rfl) (pe_c C_p_common_of (hr.mono (by decide)) gd (by rfl) (pa_cons (pe_lc (own := [("p", 5), ("q", 6)]) (g := gTup K 2 (gCons (gName 5) (gCons (gName 6) (gNil)))) rfl sc_p_ascending.nd (pi_list (pv 1)) (blkOk_by (own := [("p", 5), ("q", 6)]) (N := N_p_ascending) (sc := defScope s_p_ascending) (by decide +kernel)) (fun _ _ _ _ _ => (pg_tup rfl (pgs_cons (pg_name (i := 5) sc_p_ascending.nd rfl (Or.inl rfl)) (pgs_cons (pg_name (i := 6) sc_p_ascending.nd rfl (Or.inl rfl)) pgs_nil)))) (fun _ _ _ _ _ => pts_nil) (fun _ _ _ _ _ => (pv 6))) pa_nil)))
      (pss_one (ps_ret (pe_lc (own := [("key", 4), ("one", 3)]) (g := gTup K 2 (gCons (gName 4) (gCons (gName 3) (gNil)))) rfl sc_p_ascending.nd (pi_list (pe_callB (cr_sortD hr.units) (by rfl) m_sorted (by decide +kernel) (pa_cons (pe_lc (own := [("one", 3)]) (g := gName 3) rfl sc_p_ascending.nd (pi_list (pv 1)) (by refine blkOk_by (own := [("one", 3)]) ?_; first | kernel_rfl | (dsimp only [Cx.blk, Cx.nox, cxOf, compEnvC]; decide +kernel) | rfl) (fun _ _ _ _ _ => (pg_name (i := 3) sc_p_ascending.nd rfl (Or.inl rfl))) (fun _ _ _ _ _ => pts_nil) (fun _ _ _ _ _ => (pe_tup (pa_cons (pe_op op_mulX (pe_ix (ix_seqK (K := K) rfl) (pv 3) pe_int (fun _ _ => rfl)) (pe_op op_fdU (pv 2) (pe_ix (ix_seqK (K := K) rfl) (pv 3) pe_int (fun _ _ => rfl)))) (pa_cons (pv 3) pa_nil))))) pa_nil))) (blkOk_by (own := [("key", 4), ("one", 3)]) (N := N_p_ascending) (sc := defScope s_p_ascending) (by decide +kernel)) (fun _ _ _ _ _ => (pg_tup rfl (pgs_cons (pg_name (i := 4) sc_p_ascending.nd rfl (Or.inl rfl)) (pgs_cons (pg_name (i := 3) sc_p_ascending.nd rfl (Or.inl rfl)) pgs_nil)))) (fun _ _ _ _ _ => pts_nil) (fun _ _ _ _ _ => (pv 3))))))), ?_⟩
    dsimp only [cxOf, Cx.wish, startS, drawS, lawS, N_p_ascending, List.map, List.length, List.replicate, List.append, List.set, List.cons_append, List.nil_append]
    have lU := len_uniqE S
    have sU : ∀ x ∈ uniqE S, Rk 300 x := fun x m => hB.sm x (mem_uniqE.mp m)
    walk_at "go"
    refine v_cb cd_listX ?_
    walk_at "go"
    refine v_dmapG w_ltx (gw_name (by simp)) (fun x => x) (fun _ => .bool true) ?_
    walk_at "go"
    refine or_ltx ed ?_
    refine ⟨by rw [List.length_map]; omega, fun x hx => ?_, ?_⟩
    · obtain ⟨p, _, rfl⟩ := List.mem_map.mp hx
      dsimp only [wipeS, List.set, List.replicate]
      walk_at "go"
      exact ⟨rfl, rfl, _, enc_R.key p⟩
    rw [dctE (c := id) (v := fun _ => .bool true) enc_R S (fun _ _ => rfl) (fun _ _ => rfl), List.map_id]
    walk_at "go"
    refine ⟨tk_E enc_R _, ?_⟩
    dsimp only
    rw [show ((uniqE S).map fun p => (rD p, PyData.bool true)).map (fun x : PyData × PyData => x.1) = (uniqE S).map rD by rw [List.map_map]; rfl]
    walk_at "go"
    refine v_mapG w_list (gw_tup (gws_cons (gw_name (by simp)) (gws_cons (gw_name (by simp)) gws_nil))) (fun v => .int (ratOf v).den) ?_
    walk_at "go"
    refine ⟨by rw [List.length_map]; omega, fun x hx => ?_, ?_⟩
    · obtain ⟨p, _, rfl⟩ := List.mem_map.mp hx
      rw [ratOf_rD]
      dsimp only [wipeS, List.set, List.replicate, rD]
      walk_at "go"
      rfl
    have e2 : ((uniqE S).map rD).map (fun v => PyData.int ((ratOf v).den : Int)) = ((uniqE S).map fun p => (p.den : Int)).map PyData.int := by
      rw [List.map_map, List.map_map]
      refine List.map_congr_left fun p _ => ?_
      show PyData.int ((ratOf (rD p)).den : Int) = _
      rw [ratOf_rD]
      rfl
    rw [e2]
    walk_at "go"
    refine ⟨_, B, rfl, by rw [List.length_map]; omega, hB.pos, hB.lt, fun n m => ?_, fun M M0 MB Mn => ?_⟩
    · obtain ⟨p, mp, rfl⟩ := List.mem_map.mp m
      exact ⟨den0 p, hB.dvd p (mem_uniqE.mp mp)⟩
    have lM : M.natAbs < 2 ^ 4000 := Nat.lt_of_le_of_lt (Nat.le_of_dvd (by have := hB.pos; omega) (Int.natAbs_dvd_natAbs.mpr MB)) hB.lt
    have dM : ∀ s ∈ S, (s.den : Int) ∣ M := fun s m => Mn s.den (List.mem_map_of_mem (f := fun p : Rat => (p.den : Int)) (mem_uniqE.mpr m))
    walk_at "go"
    refine v_mapG w_list (gw_tup (gws_cons (gw_name (by simp)) (gws_cons (gw_name (by simp)) gws_nil))) (fun v => match v with | .tuple [_, p] => p | _ => .none) ?_
    walk_at "go"
    refine v_cb cd_sortD ?_
    walk_at "go"
    refine v_mapG w_list (gw_name (by simp)) (fun v => sortF M (ratOf v)) ?_
    walk_at "go"
    refine ⟨by rw [List.length_map]; omega, fun x hx => ?_, ?_⟩
    · obtain ⟨p, mp, rfl⟩ := List.mem_map.mp hx
      have k := sU p mp
      have dp := den0 p
      have d1 : DivOk M p.den := .w 300 (by omega) (by rw [Int.natAbs_natCast]; exact k.d)
      have q1 : (M.fdiv p.den).natAbs < 2 ^ 4000 := Nat.lt_of_le_of_lt (fdiv_le dp (dM p (mem_uniqE.mp mp))) lM
      have m1 : MlOk p.num (M.fdiv p.den) := .w 300 4000 k.n q1
      rw [ratOf_rD]
      dsimp only [wipeS, List.set, List.replicate, rD]
      walk_at "go"
      rfl
    have es : ((uniqE S).map rD).map (fun v => sortF M (ratOf v)) = (uniqE S).map (sortF M) := by
      rw [List.map_map]
      refine List.map_congr_left fun p _ => ?_
      show sortF M (ratOf (rD p)) = _
      rw [ratOf_rD]
    rw [es]
    obtain ⟨r1, r2, r3, r4⟩ := rowsF M (uniqE S)
    walk_at "go"
    refine ⟨r1, r2, r3, r4, ?_⟩
    refine ⟨_, rfl, ?_⟩
    rw [sortedF M0 dM]
    have lT : ((uniqE S).mergeSort (leR M)).length = (uniqE S).length := List.length_mergeSort _
    refine ⟨by rw [List.length_map, lT]; omega, fun x hx => ?_, ?_⟩
    · obtain ⟨p, _, rfl⟩ := List.mem_map.mp hx
      dsimp only [wipeS, List.set, List.replicate, sortF]
      walk_at "go"
      rfl
    rw [List.map_map]
    obtain ⟨o1, o2⟩ := ordF M0 dM
    exact h _ o1 o2
theorem ok_p_plus (B : Bi K mg) (DF : Df K mg "plus" s_p_plus ["s", "t"])
    (C_p_fraction : Cal P w K mg base 1 "fraction" ["p", "q"] (spD K gFraction)) :
    Cal P w K mg base 2 "plus" ["s", "t"] (spD K gPlus) := by
  refine cal_of DF fun f fd Fu => FnG.dat Fu sc_p_plus (fun ds R h => ?_) (fun cdv A outer s H E gd hr F hF ds R h => ?_)
  · obtain ⟨p, q, r, t, rfl, hq, ht, s1, s2, s3, s4, h⟩ := h
    rfl
  · obtain ⟨p, q, r, t, rfl, hq, ht, s1, s2, s3, s4, h⟩ := h
    refine ⟨_, (pss_one (ps_ret (pe_c C_p_fraction (hr.mono (by decide)) gd (by rfl) (pa_cons (pe_op op_addX (pe_op op_mulX (pe_ix (ix_seqK (K := K) rfl) (pv 0) pe_int (fun _ _ => rfl)) (pe_ix (ix_seqK (K := K) rfl) (pv 1) pe_int (fun _ _ => rfl))) (pe_op op_mulX (pe_ix (ix_seqK (K := K) rfl) (pv 1) pe_int (fun _ _ => rfl)) (pe_ix (ix_seqK (K := K) rfl) (pv 0) pe_int (fun _ _ => rfl)))) (pa_cons (pe_op op_mulX (pe_ix (ix_seqK (K := K) rfl) (pv 0) pe_int (fun _ _ => rfl)) (pe_ix (ix_seqK (K := K) rfl) (pv 1) pe_int (fun _ _ => rfl))) pa_nil))))), ?_⟩
    dsimp only [cxOf, Cx.wish, startS, drawS, lawS, N_p_plus, List.map, List.length, List.replicate, List.append, List.set, List.cons_append, List.nil_append]
    have m1 : MlOk p t := .w 100 100 s1 s4
    have m2 : MlOk r q := .w 100 100 s3 s2
    have m3 : MlOk q t := .w 100 100 s2 s4
    have m4 : MlOk p r := .w 100 100 s1 s3
    have m5 : MlOk q r := .w 100 100 s2 s3
    have b1 : (p * t).natAbs < 2 ^ 200 := wide_lt s1 s4
    have b2 : (r * q).natAbs < 2 ^ 200 := wide_lt s3 s2
    have b3 : (q * t).natAbs < 2 ^ 200 := wide_lt s2 s4
    have b4 : (p * r).natAbs < 2 ^ 200 := wide_lt s1 s3
    have b5 : (q * r).natAbs < 2 ^ 200 := wide_lt s2 s3
    walk_at "go"
    refine ⟨_, _, rfl, Int.mul_ne_zero hq ht, ?_, abs_up (by assumption), h⟩
    exact abs_up (abs_add b1 b2)
theorem ok_p_is_less (B : Bi K mg) (DF : Df K mg "is_less" s_p_is_less ["s", "t"]) :
    Cal P w K mg base 1 "is_less" ["s", "t"] (spD K gLess) := by
  refine cal_of DF fun f fd Fu => FnG.dat Fu sc_p_is_less (fun ds R h => ?_) (fun cdv A outer s H E gd hr F hF ds R h => ?_)
  · obtain ⟨p, q, r, t, rfl, s1, s2, s3, s4, h⟩ := h
    rfl
  · obtain ⟨p, q, r, t, rfl, s1, s2, s3, s4, h⟩ := h
    refine ⟨_, (pss_one (ps_ret (pe_cmpR (op_ltX hr.units) (pe_op op_mulX (pe_ix (ix_seqK (K := K) rfl) (pv 0) pe_int (fun _ _ => rfl)) (pe_ix (ix_seqK (K := K) rfl) (pv 1) pe_int (fun _ _ => rfl))) (pe_op op_mulX (pe_ix (ix_seqK (K := K) rfl) (pv 1) pe_int (fun _ _ => rfl)) (pe_ix (ix_seqK (K := K) rfl) (pv 0) pe_int (fun _ _ => rfl))) (nomark _)))), ?_⟩
    dsimp only [cxOf, Cx.wish, startS, drawS, lawS, N_p_is_less, List.map, List.length, List.replicate, List.append, List.set, List.cons_append, List.nil_append]
    have m1 : MlOk p t := .w 100 100 s1 s4
    have m2 : MlOk r q := .w 100 100 s3 s2
    walk_at "go"
    exact h
theorem ok_p_behinds_ahead (B : Bi K mg) (DF : Df K mg "behinds_ahead" s_p_behinds_ahead ["steps"]) :
    Cal P w K mg base 1 "behinds_ahead" ["steps"] (spD K gBehLT) := by
  refine cal_of DF fun f fd Fu => FnG.dat Fu sc_p_behinds_ahead (fun ds R h => ?_) (fun cdv A outer s H E gd hr F hF ds R h => ?_)
  · obtain ⟨s, d, rfl, ed, ls, h⟩ := h
    rfl
  · obtain ⟨s, d, rfl, ed, ls, h⟩ := h
    refine ⟨_, (pss_one (ps_ret (pe_op op_addX (pe_lst (pa_cons pe_int pa_nil)) (pe_lc (own := [("height", 1), ("at", 2), ("behind", 3)]) (g := gTup K 3 (gCons (gName 1) (gCons (gName 2) (gCons (gName 3) (gNil))))) rfl sc_p_behinds_ahead.nd (pi_lt (pe_slice (sl_lt (K := K) rfl) (pv 0) po_none (po_some (pe_un un_neg pe_int)))) (blkOk_by (own := [("height", 1), ("at", 2), ("behind", 3)]) (N := N_p_behinds_ahead) (sc := defScope s_p_behinds_ahead) (by decide +kernel)) (fun _ _ _ _ _ => (pg_tup rfl (pgs_cons (pg_name (i := 1) sc_p_behinds_ahead.nd rfl (Or.inl rfl)) (pgs_cons (pg_name (i := 2) sc_p_behinds_ahead.nd rfl (Or.inl rfl)) (pgs_cons (pg_name (i := 3) sc_p_behinds_ahead.nd rfl (Or.inl rfl)) pgs_nil))))) (fun _ _ _ _ _ => pts_nil) (fun _ _ _ _ _ => (pv 3)))))), ?_⟩
    dsimp only [cxOf, Cx.wish, startS, drawS, lawS, N_p_behinds_ahead, List.map, List.length, List.replicate, List.append, List.set, List.cons_append, List.nil_append]
    walk_at "go"
    refine v_mapG w_lt (gw_tup (gws_cons (gw_name (by simp)) (gws_cons (gw_name (by simp)) (gws_cons (gw_name (by simp)) gws_nil)))) (fun v => .int (toE v).2.2) ?_
    refine v_cutLA ?_
    walk_at "go"
    refine ⟨_, ed, ?_⟩
    walk_at "go"
    rw [cut_last, ← List.map_dropLast]
    intro e ee
    refine ⟨_, ee, by rw [List.length_map, List.length_dropLast]; omega, fun x hx => ?_, ?_⟩
    · obtain ⟨e, me, rfl⟩ := List.mem_map.mp hx
      rw [toE_entD]
      dsimp only [wipeS, List.set, entD]
      walk_at "go"
      rfl
    rw [map_via toE_entD (fun e => PyData.int e.2.2)]
    walk_at "go"
    refine ⟨by rw [List.length_map, List.length_dropLast]; show 1 + _ ≤ _; omega, ?_⟩
    have e : [PyData.int 0] ++ s.dropLast.map (fun e => PyData.int e.2.2) = (behL s).map .int := by
      unfold behL
      rw [List.map_cons, List.map_map]
      rfl
    rw [e]
    exact h
theorem ok_p_in_form (B : Bi K mg) (DF : Df K mg "in_form" s_p_in_form ["entries"])
    (C_p_behinds_ahead : Cal P w K mg base 1 "behinds_ahead" ["steps"] (spD K gBehLT)) :
    Cal P w K mg base 2 "in_form" ["entries"] (spD K gInForm) := by
  have m_tuple := B.b_tuple
  have m_zip := B.b_zip
  refine cal_of DF fun f fd Fu => FnG.dat Fu sc_p_in_form (fun ds R h => ?_) (fun cdv A outer s H E gd hr F hF ds R h => ?_)
  · obtain ⟨s, rfl, ls, h⟩ := h
    rfl
  · obtain ⟨s, rfl, ls, h⟩ := h
    refine ⟨_, (pss_cons (ps_setO (i := 1) sc_p_in_form.nd rfl (.inl rfl) (pe_lst pa_nil))
      (pss_cons (ps_for PassesOwn.never rfl (RZ.pi_zipA (by rfl) m_zip (pa_cons (pv 0) (pa_cons (pe_c C_p_behinds_ahead (hr.mono (by decide)) gd (by rfl) (pa_cons (pv 0) pa_nil)) pa_nil))) (pg_tup rfl (pgs_cons (pg_name (i := 2) sc_p_in_form.nd rfl (Or.inl rfl)) (pgs_cons (pg_name (i := 3) sc_p_in_form.nd rfl (Or.inl rfl)) pgs_nil)))
        (pss_one (ps_if (pt_not (pt_chain (op_eqX hr.units) (op_eqX hr.units) (pe_ix (ix_seqK (K := K) rfl) (pv 2) pe_int (fun _ _ => rfl)) (pe_ix (ix_seqK (K := K) rfl) (pv 2) pe_int (fun _ _ => rfl)) (pv 3)))
            (pss_one (ps_expr (pe_bm PySem.F.plainAttrs_list PySem.F.slot_list_append PySem.F.type_list_append mt_append (pv 1) (pa_cons (pv 2) pa_nil))))
            pss_nil)))
      (pss_one (ps_ret (pe_callTy call_tuple_of (by rfl) m_tuple (by decide +kernel) (pa_cons (pv 1) pa_nil)))))), ?_⟩
    dsimp only [cxOf, Cx.wish, startS, drawS, lawS, N_p_in_form, List.map, List.length, List.replicate, List.append, List.set, List.cons_append, List.nil_append]
    walk_at "go"
    dsimp only [List.set, List.replicate]
    refine s_for w_zip ?_
    walk_at "go"
    refine ⟨s, _, rfl, .inl rfl, ls, ?_⟩
    walk_at "go"
    refine ⟨_, _, .inl rfl, ?_⟩
    rw [zip_ahead_D]
    refine ⟨fun i δ' => ∃ x y, δ' = [.dat (.list (s.map entD)), .own ((inF 0 (s.take i)).map entD), x, y], ⟨.no, .no, rfl⟩, fun i u δ' hi I => ?_, fun δ' I => ?_⟩
    · obtain ⟨x, y, rfl⟩ := I
      rw [List.getElem?_map] at hi
      obtain ⟨p, hp, rfl⟩ := Option.map_eq_some_iff.mp hi
      have li := (List.getElem?_eq_some_iff.mp hp).1
      rw [aheadE_len] at li
      have es : s[i]? = some p.1 := by
        have := congrArg (fun l : List E3 => l[i]?) (aheadE_fst (acc := 0) (s := s))
        rw [← this]
        show ((aheadE 0 s).map (·.1))[i]? = _
        rw [List.getElem?_map, hp]
        rfl
      have ea : p.2 = endE 0 (s.take i) := ahead_end hp
      have tk := take_snoc es
      have q1 := inF_snoc (acc := 0) (e := p.1) (s := s.take i)
      rw [← tk] at q1
      have lF := inF_len (acc := 0) (s := s.take i)
      rw [List.length_take] at lF
      obtain ⟨⟨hh, at1, be1⟩, ah⟩ := p
      dsimp only at es ea q1
      subst ea
      dsimp only [aeD, entD]
      have stay : (at1 = endE 0 (s.take i) ∧ be1 = endE 0 (s.take i)) → inF 0 (s.take (i + 1)) = inF 0 (s.take i) := fun c => by rw [q1, if_pos c, List.append_nil]
      have pushed : ¬ (at1 = endE 0 (s.take i) ∧ be1 = endE 0 (s.take i)) → (inF 0 (s.take i)).map entD ++ [entD (hh, at1, be1)] = (inF 0 (s.take (i + 1))).map entD := fun c => by
        rw [q1, if_neg c, List.map_append]
        rfl
      generalize endE 0 (s.take i) = ah at *
      have push : ∀ b c, ¬ (at1 = ah ∧ be1 = ah) → SV K F [.dat (.list (s.map entD)), .own ((inF 0 (s.take i)).map entD), .dat (.tuple [rD hh, .int at1, .int be1]), .dat (.int ah)] (tDrop (tBM K "list" rAppend (tVar 1) (tCons (tVar 2) tNil))) ⟨fun δ' => ∃ x y, δ' = [.dat (.list (s.map entD)), .own ((inF 0 (s.take (i + 1))).map entD), x, y], R, b, c⟩ := fun b' c' c => by
        walk_at "go"
        refine ⟨by rw [List.length_map]; omega, ?_⟩
        exact ⟨_, _, by rw [← pushed c]; rfl⟩
      walk_at "go"
      refine ⟨fun e1 => ?_, fun e1 => ?_⟩
      · have e1 : at1 = be1 := of_decide_eq_true (eqv_int1 (a := at1) (b := be1) ▸ e1)
        walk_at "go"
        refine ⟨fun e2 => ?_, fun e2 => ?_⟩
        · exact push _ _ fun c => by
            rw [c.2, eqv_int1, decide_eq_true rfl] at e2
            cases e2
        · rw [eqv_int1] at e2
          have e2 : be1 = ah := by
            refine Classical.byContradiction fun n => ?_
            rw [decide_eq_false n] at e2
            cases e2
          walk_at "go"
          exact ⟨_, _, by rw [stay ⟨e1.trans e2, e2⟩]; rfl⟩
      · walk_at "go"
        refine ⟨fun _ => push _ _ fun c => ?_, fun z => (by cases z)⟩
        rw [c.1, c.2, eqv_int1, decide_eq_true rfl] at e1
        cases e1
    obtain ⟨x, y, rfl⟩ := I
    rw [List.length_map, aheadE_len, List.take_length]
    dsimp only
    refine s_rel (i := 1) rfl ?_
    walk_at "go"
    exact h
theorem ok_p_is_stretch (B : Bi K mg) (DF : Df K mg "is_stretch" s_p_is_stretch ["value"])
    (C_p_is_number : Cal P w K mg base 1 "is_number" ["value"] (spD K gIsNum))
    (C_p_is_fraction : Cal P w K mg base 3 "is_fraction" ["value"] (spD K gIsFraction))
    (C_p_is_less : Cal P w K mg base 1 "is_less" ["s", "t"] (spD K gLess)) :
    Cal P w K mg base 4 "is_stretch" ["value"] (spD K gIsStr) := by
  have m_isinstance := B.b_isinstance
  have m_len := B.b_len
  have m_tuple := B.b_tuple
  refine cal_of DF fun f fd Fu => FnG.dat Fu sc_p_is_stretch (fun ds R h => ?_) (fun cdv A outer s H E gd hr F hF ds R h => ?_)
  · obtain ⟨r, rfl, hl, k1, k2, h⟩ := h
    rfl
  · obtain ⟨r, rfl, hl, k1, k2, h⟩ := h
    refine ⟨_, (pss_cons (ps_if ((pw_or (pt_not (pt_val (pe_callB cr_isT (by rfl) m_isinstance (by decide +kernel) (pa_cons (pv 0) (pa_cons (pe_bltn (v := .ty "tuple") (by rfl) m_tuple (by decide +kernel) rfl) pa_nil))))) (pw_or (pt_cmpR (op_neX hr.units) (pe_callB call_len_seq (by rfl) m_len (by decide +kernel) (pa_cons (pv 0) pa_nil)) pe_int (nomark _)) (pw_or (pt_not (pt_val (pe_c C_p_is_fraction (hr.mono (by decide)) gd (by rfl) (pa_cons (pe_ix (ix_seqK (K := K) rfl) (pv 0) pe_int (fun _ _ => rfl)) pa_nil)))) (pw_or1 (pt_not (pt_val (pe_c C_p_is_fraction (hr.mono (by decide)) gd (by rfl) (pa_cons (pe_ix (ix_seqK (K := K) rfl) (pv 0) pe_int (fun _ _ => rfl)) pa_nil))))))))).pt
        (pss_one (ps_ret pe_bl))
        pss_nil)
      (pss_one (ps_ret (pe_and (pe_c C_p_is_number (hr.mono (by decide)) gd (by rfl) (pa_cons (pe_ix (ix_seqK (K := K) rfl) (pv 0) pe_int (fun _ _ => rfl)) pa_nil)) (pe_one (pe_not (pe_c C_p_is_less (hr.mono (by decide)) gd (by rfl) (pa_cons (pe_ix (ix_seqK (K := K) rfl) (pv 0) pe_int (fun _ _ => rfl)) (pa_cons (pe_ix (ix_seqK (K := K) rfl) (pv 0) pe_int (fun _ _ => rfl)) pa_nil))))))))), ?_⟩
    dsimp only [cxOf, Cx.wish, startS, drawS, lawS, N_p_is_stretch, List.map, List.length, List.replicate, List.append, List.set, List.cons_append, List.nil_append]
    have sh : ∀ x : Rat, shortT (rD x) := fun x xs z => by cases z; show 2 ≤ 1000; decide
    have fr1 : ∀ x : Rat, isFrac (rD x) = true := fun x => by
      show (decide ((0 : Int) < x.den) && decide (Nat.gcd x.num.natAbs ((x.den : Int)).natAbs = 1)) = true
      rw [decide_eq_true (den0 x), Int.natAbs_natCast, decide_eq_true x.reduced]
      rfl
    walk_at "go"
    refine ⟨fun e => (by cases e), fun _ => ?_⟩
    walk_at "go"
    refine ⟨fun e => (by cases e), fun _ => ?_⟩
    walk_at "go"
    refine ⟨_, rfl, sh _, ?_⟩
    rw [fr1]
    walk_at "go"
    refine ⟨fun e => (by cases e), fun _ => ?_⟩
    walk_at "go"
    refine ⟨_, rfl, sh _, ?_⟩
    rw [fr1]
    walk_at "go"
    refine ⟨fun e => (by cases e), fun _ => ?_⟩
    walk_at "go"
    refine ⟨_, rfl, ?_⟩
    refine ⟨true, rfl, fun _ => ?_, fun z => (by cases z)⟩
    walk_at "go"
    obtain ⟨a1, a2⟩ := k1.bn
    obtain ⟨a3, a4⟩ := k2.bn
    refine ⟨_, _, _, _, rfl, a3, a4, a1, a2, _, rfl, ?_⟩
    rw [below_iff, decide_eq_false (Rat.not_lt.mpr hl)]
    exact h
theorem ok_p_steps_of (B : Bi K mg) (DF : Df K mg "steps_of" s_p_steps_of ["rows"])
    (C_p_ascending : Cal P w K mg base 2 "ascending" ["fractions"] (spD K gAscF))
    (C_p_in_form : Cal P w K mg base 2 "in_form" ["entries"] (spD K gInForm))
    (C_p_is_stretch : Cal P w K mg base 4 "is_stretch" ["value"] (spD K gIsStr)) :
    Cal P w K mg base 5 "steps_of" ["rows"] (spD K gStepsP) := by
  have m_enumerate := B.b_enumerate
  refine cal_of DF fun f fd Fu => FnG.dat Fu sc_p_steps_of (fun ds R h => ?_) (fun cdv A outer s H E gd hr F hF ds R h => ?_)
  · obtain ⟨rs, D, rfl, ok, lr, kr, dn, h⟩ := h
    rfl
  · obtain ⟨rs, D, rfl, ok, lr, kr, dn, h⟩ := h
    refine ⟨_, (pss_cons (ps_par (i := 2) (j := 3) rfl sc_p_steps_of.nd rfl rfl (by decide) rfl rfl (pa_cons pe_dnewX (pa_cons pe_dnewX pa_nil)) rfl)
      (pss_cons (ps_for PassesOwn.never rfl (pi_enum (by rfl) m_enumerate (pa_cons (pv 0) pa_nil)) (pg_tup rfl (pgs_cons (pg_name (i := 4) sc_p_steps_of.nd rfl (Or.inl rfl)) (pgs_cons (pg_name (i := 5) sc_p_steps_of.nd rfl (Or.inl rfl)) pgs_nil)))
        (pss_cons (ps_if (pt_not (pt_val (pe_c C_p_is_stretch (hr.mono (by decide)) gd (by rfl) (pa_cons (pv 5) pa_nil))))
            (pss_one ps_no)
            pss_nil)
          (pss_cons (ps_dputX hr.units (pv 2) (pe_ix (ix_seqK (K := K) rfl) (pv 5) pe_int (fun _ _ => rfl)) (pe_op op_addX (pe_mG ty_key PySem.F.plainAttrs_dict PySem.F.slot_dict_get PySem.F.type_dict_get (mt_getXK (K := K) rfl hr.units) (pv 2) (pa_cons (pe_ix (ix_seqK (K := K) rfl) (pv 5) pe_int (fun _ _ => rfl)) (pa_cons pe_int pa_nil))) (pe_ix (ix_seqK (K := K) rfl) (pv 5) pe_int (fun _ _ => rfl))))
          (pss_one (ps_dputX hr.units (pv 3) (pe_ix (ix_seqK (K := K) rfl) (pv 5) pe_int (fun _ _ => rfl)) (pe_op op_addX (pe_mG ty_key PySem.F.plainAttrs_dict PySem.F.slot_dict_get PySem.F.type_dict_get (mt_getXK (K := K) rfl hr.units) (pv 3) (pa_cons (pe_ix (ix_seqK (K := K) rfl) (pv 5) pe_int (fun _ _ => rfl)) (pa_cons pe_int pa_nil))) (pe_ix (ix_seqK (K := K) rfl) (pv 5) pe_int (fun _ _ => rfl))))))))
      (pss_cons (ps_par (i := 6) (j := 7) rfl sc_p_steps_of.nd rfl rfl (by decide) rfl rfl (pa_cons (pe_lst pa_nil) (pa_cons pe_int pa_nil)) rfl)
      (pss_cons (ps_for PassesOwn.never rfl (pi_list (pe_c C_p_ascending (hr.mono (by decide)) gd (by rfl) (pa_cons (pe_lst (pa_starX rfl (pv 2) (pa_starX rfl (pv 3) pa_nil))) pa_nil))) (pg_name (i := 1) sc_p_steps_of.nd rfl (Or.inl rfl))
        (pss_cons (ps_set (i := 8) sc_p_steps_of.nd rfl (.inl rfl) (pe_op op_addX (pv 7) (pe_mG ty_key PySem.F.plainAttrs_dict PySem.F.slot_dict_get PySem.F.type_dict_get (mt_getXK (K := K) rfl hr.units) (pv 2) (pa_cons (pv 1) (pa_cons pe_int pa_nil)))))
          (pss_cons (ps_set (i := 7) sc_p_steps_of.nd rfl (.inl rfl) (pe_op op_subX (pv 8) (pe_mG ty_key PySem.F.plainAttrs_dict PySem.F.slot_dict_get PySem.F.type_dict_get (mt_getXK (K := K) rfl hr.units) (pv 3) (pa_cons (pv 1) (pa_cons pe_int pa_nil)))))
          (pss_one (ps_expr (pe_bm PySem.F.plainAttrs_list PySem.F.slot_list_append PySem.F.type_list_append mt_append (pv 6) (pa_cons (pe_tup (pa_cons (pv 1) (pa_cons (pv 8) (pa_cons (pv 7) pa_nil)))) pa_nil)))))))
      (pss_one (ps_ret (pe_c C_p_in_form (hr.mono (by decide)) gd (by rfl) (pa_cons (pv 6) pa_nil)))))))), ?_⟩
    dsimp only [cxOf, Cx.wish, startS, drawS, lawS, N_p_steps_of, List.map, List.length, List.replicate, List.append, List.set, List.cons_append, List.nil_append]
    refine s_seq (s_ownDD ?_)
    dsimp only [List.set, List.replicate]
    walk_at "go"
    refine s_for w_enum ?_
    walk_at "go"
    have z0 : ∀ e, sumEnd e (rs.take 0) = [] := fun e => by rw [List.take_zero]; rfl
    refine ⟨fun i δ' => ∃ a b c d e f, δ' = [.dat (.list (rs.map rwD)), a, .ownd (sumEnd Rw.lo (rs.take i)), .ownd (sumEnd Rw.hi (rs.take i)), b, c, d, e, f], ?_, fun i u δ' hi I => ?_, fun δ' I => ?_⟩
    · dsimp only
      rw [z0, z0]
      exact ⟨_, _, _, _, _, _, rfl⟩
    · obtain ⟨a, b, c, d, e, f, rfl⟩ := I
      obtain ⟨r, hr, rfl⟩ := enumD_at hi
      have mr := List.mem_of_getElem? hr
      have tk := take_snoc hr
      have li := (List.getElem?_eq_some_iff.mp hr).1
      have l1 := len_sumEnd Rw.lo (rs.take i)
      have l2 := len_sumEnd Rw.hi (rs.take i)
      rw [List.length_take] at l1 l2
      walk_at "go"
      refine ⟨r, rfl, ok r mr, (kr r mr).1, (kr r mr).2, ?_⟩
      walk_at "go"
      refine ⟨fun e => (by cases e), fun _ => ?_⟩
      dsimp only [rwD, List.set]
      refine s_next (s_seq (s_dput (i := 2) rfl ?_))
      refine v_op (od_or od_I0 od_cat) (v_ogetX (i := 2) rfl (EA.mono (P := fun ds => ds = [rD r.lo, .int 0]) ?_ ?_))
      · walk_at "go"
        rfl
      rintro _ rfl
      refine ⟨_, _, enc_R.key _, .inr ⟨_, rfl, ?_⟩⟩
      rw [look_sumEnd]
      walk_at "go"
      refine ⟨_, enc_R.key _, by omega, ?_⟩
      rw [put_sumEnd, ← tk]
      dsimp only [List.set]
      refine s_dput (i := 3) rfl ?_
      refine v_op (od_or od_I0 od_cat) (v_ogetX (i := 3) rfl (EA.mono (P := fun ds => ds = [rD r.hi, .int 0]) ?_ ?_))
      · walk_at "go"
        rfl
      rintro _ rfl
      refine ⟨_, _, enc_R.key _, .inr ⟨_, rfl, ?_⟩⟩
      rw [look_sumEnd]
      walk_at "go"
      refine ⟨_, enc_R.key _, by omega, ?_⟩
      rw [put_sumEnd, ← tk]
      exact ⟨_, _, _, _, _, _, rfl⟩
    obtain ⟨a, b, c, d, e, f, rfl⟩ := I
    rw [enumD_len, List.length_map, List.take_length]
    have t1 := tk_sumEnd Rw.lo rs
    have t2 := tk_sumEnd Rw.hi rs
    have k1 := keys_sumEnd Rw.lo rs
    have k2 := keys_sumEnd Rw.hi rs
    dsimp only
    refine s_relD (i := 2) rfl ?_
    refine s_relD (i := 3) rfl ?_
    dsimp only [List.set]
    refine s_seq (s_parO1 ?_)
    walk_at "go"
    dsimp only [List.set]
    refine s_for w_list ?_
    refine v_go (a_cons (v_lst (a_starX ?_)))
    walk_at "go"
    refine ⟨t1, a_starX ?_⟩
    walk_at "go"
    refine ⟨t2, ?_⟩
    walk_at "go"
    rw [k1, k2]
    have u1 := len_uniqE (rs.map Rw.lo)
    have u2 := len_uniqE (rs.map Rw.hi)
    rw [List.length_map] at u1 u2
    rw [List.append_nil, ← List.map_append]
    refine ⟨by rw [List.length_map, List.length_append]; omega, ?_⟩
    have cases' : ∀ x ∈ uniqE (rs.map Rw.lo) ++ uniqE (rs.map Rw.hi), ∃ r ∈ rs, x = r.lo ∨ x = r.hi := fun x m => by
      rcases List.mem_append.mp m with m | m
      · obtain ⟨r, mr, e⟩ := List.mem_map.mp (mem_uniqE.mp m)
        exact ⟨r, mr, .inl e.symm⟩
      · obtain ⟨r, mr, e⟩ := List.mem_map.mp (mem_uniqE.mp m)
        exact ⟨r, mr, .inr e.symm⟩
    refine a_nil ⟨_, _, D, rfl, .inl ⟨_, .inl rfl, rfl⟩, by rw [List.length_append]; omega, ⟨dn.pos, dn.lt, fun x m => ?_, fun x m => ?_⟩, fun T A mT => ?_⟩
    · obtain ⟨r, mr, rfl | rfl⟩ := cases' x m
      · exact (dn.dvd r mr).1
      · exact (dn.dvd r mr).2
    · obtain ⟨r, mr, rfl | rfl⟩ := cases' x m
      · exact (kr r mr).1.up (by decide)
      · exact (kr r mr).2.up (by decide)
    have E : Ends rs T := ⟨A, fun x => by
      rw [mT]
      refine ⟨cases' x, fun ⟨r, mr, z⟩ => List.mem_append.mpr ?_⟩
      rcases z with rfl | rfl
      · exact .inl (mem_uniqE.mpr (List.mem_map_of_mem mr))
      · exact .inr (mem_uniqE.mpr (List.mem_map_of_mem mr))⟩
    have lT : T.length ≤ 2 * rs.length := by
      have := asc_rat_len A fun t m => (mT t).mp m
      rw [List.length_append] at this
      omega
    have cr : Crit T (V3 rs) := crit_rows fun r mr => ⟨ok r mr, (E.mem _).mpr ⟨r, mr, .inl rfl⟩, (E.mem _).mpr ⟨r, mr, .inr rfl⟩⟩
    refine ⟨_, rfl, fun i δ' => ∃ x f, δ' = [.dat (.list (rs.map rwD)), x, .dat (.dict (sumEnd Rw.lo rs)), .dat (.dict (sumEnd Rw.hi rs)), b, c, .own (((T.take i).map (ent (V3 rs))).map entD), .dat (.int (endE 0 ((T.take i).map (ent (V3 rs))))), f], ⟨_, _, rfl⟩, fun i u δ' hi I => ?_, fun δ' I => ?_⟩
    · obtain ⟨x, f, rfl⟩ := I
      rw [List.getElem?_map] at hi
      obtain ⟨hh, eh, rfl⟩ := Option.map_eq_some_iff.mp hi
      have li := (List.getElem?_eq_some_iff.mp eh).1
      have e1 := endE_at A cr eh
      have e2 := v3_bot ok hh
      have e3 := v3_top ok hh
      have tk := take_snoc eh
      have tkm : (T.take i).map (ent (V3 rs)) ++ [ent (V3 rs) hh] = (T.take (i + 1)).map (ent (V3 rs)) := by rw [tk, List.map_append]; rfl
      have en := endE_snoc (acc := 0) (e := ent (V3 rs) hh) (s := (T.take i).map (ent (V3 rs)))
      rw [tkm] at en
      rw [e1]
      walk_at "go"
      refine v_getX ?_
      walk_at "go"
      refine ⟨t1, EA.mono (P := fun ds => ds = [rD hh, .int 0]) ?_ ?_⟩
      · walk_at "go"
        rfl
      rintro _ rfl
      refine ⟨_, _, enc_R.key hh, .inr ⟨_, rfl, ?_⟩⟩
      rw [look_sumEnd]
      walk_at "go"
      refine v_getX ?_
      walk_at "go"
      refine ⟨t2, EA.mono (P := fun ds => ds = [rD hh, .int 0]) ?_ ?_⟩
      · walk_at "go"
        rfl
      rintro _ rfl
      refine ⟨_, _, enc_R.key hh, .inr ⟨_, rfl, ?_⟩⟩
      rw [look_sumEnd, show (V3 rs hh).1 + wAt Rw.lo rs hh = (V3 rs hh).2.1 by omega]
      walk_at "go"
      rw [show (V3 rs hh).2.1 - wAt Rw.hi rs hh = (V3 rs hh).2.2 by omega]
      refine ⟨by rw [List.length_map, List.length_map, List.length_take]; omega, ?_⟩
      dsimp only [List.set]
      refine ⟨.dat (rD hh), .dat (.int (V3 rs hh).2.1), ?_⟩
      rw [en, ← tkm, List.map_append (f := entD)]
      rfl
    obtain ⟨x, f, rfl⟩ := I
    rw [List.length_map, List.take_length]
    dsimp only
    refine s_rel (i := 6) rfl ?_
    walk_at "go"
    refine ⟨_, rfl, by rw [List.length_map]; omega, ?_⟩
    refine h _ ⟨tells_rows ok E, ?_, fun e m => ?_, fun e m => ?_⟩
    · have := inF_len (acc := 0) (s := T.map (ent (V3 rs)))
      rw [List.length_map] at this
      omega
    · obtain ⟨x, mx, rfl⟩ := List.mem_map.mp (inF_sub e m)
      exact (E.mem x).mp mx
    · obtain ⟨x, mx, rfl⟩ := List.mem_map.mp (inF_sub e m)
      rfl
theorem ok_p_looks_at (B : Bi K mg) (DF : Df K mg "looks_at" s_p_looks_at ["steps", "height"])
    (C_p_is_less : Cal P w K mg base 1 "is_less" ["s", "t"] (spD K gLess)) :
    Cal P w K mg base 2 "looks_at" ["steps", "height"] (spD K gLooksAt) := by
  refine cal_of DF fun f fd Fu => FnG.dat Fu sc_p_looks_at (fun ds R h => ?_) (fun cdv A outer s H E gd hr F hF ds R h => ?_)
  · obtain ⟨s, q, rfl, A, ls, ks, kq, h⟩ := h
    rfl
  · obtain ⟨s, q, rfl, A, ls, ks, kq, h⟩ := h
    refine ⟨_, (pss_cons (ps_set (i := 2) sc_p_looks_at.nd rfl (.inl rfl) pe_int)
      (pss_cons (ps_for PassesOwn.never rfl (pi_tup (pv 0)) (pg_tup rfl (pgs_cons (pg_name (i := 3) sc_p_looks_at.nd rfl (Or.inl rfl)) (pgs_cons (pg_name (i := 4) sc_p_looks_at.nd rfl (Or.inl rfl)) (pgs_cons (pg_name (i := 5) sc_p_looks_at.nd rfl (Or.inl rfl)) pgs_nil))))
        (pss_cons (ps_if (pt_cmpR (op_eqX hr.units) (pv 3) (pv 1) (nomark _))
            (pss_one (ps_ret (pe_tup (pa_cons (pv 4) (pa_cons (pv 5) pa_nil)))))
            pss_nil)
          (pss_cons (ps_if (pt_val (pe_c C_p_is_less (hr.mono (by decide)) gd (by rfl) (pa_cons (pv 1) (pa_cons (pv 3) pa_nil))))
            (pss_one (ps_ret (pe_tup (pa_cons (pv 2) (pa_cons (pv 2) pa_nil)))))
            pss_nil)
          (pss_one (ps_set (i := 2) sc_p_looks_at.nd rfl (.inl rfl) (pv 5))))))
      (pss_one (ps_ret (pe_tup (pa_cons (pv 2) (pa_cons (pv 2) pa_nil))))))), ?_⟩
    dsimp only [cxOf, Cx.wish, startS, drawS, lawS, N_p_looks_at, List.map, List.length, List.replicate, List.append, List.set, List.cons_append, List.nil_append]
    have bq := kq.bn
    walk_at "go"
    refine s_for w_tup ?_
    walk_at "go"
    refine ⟨fun i δ' => ∃ a b c, δ' = [.dat (.tuple (s.map entD)), .dat (rD q), .dat (.int (endE 0 (s.take i))), a, b, c] ∧ ∀ e ∈ s.take i, e.1 < q, ⟨_, _, _, rfl, fun e m => (by cases m)⟩, fun i u δ' hi I => ?_, fun δ' I => ?_⟩
    · obtain ⟨a, b, c, rfl, J⟩ := I
      rw [List.getElem?_map] at hi
      obtain ⟨e, he, rfl⟩ := Option.map_eq_some_iff.mp hi
      have me := List.mem_of_getElem? he
      have be := (ks e me).bn
      have tk := take_snoc he
      have en := endE_snoc (acc := 0) (e := e) (s := s.take i)
      rw [← tk] at en
      have lk := look_mid (acc := 0) A he J
      dsimp only [entD]
      walk_at "go"
      refine ⟨fun z => ?_, fun z => ?_⟩
      · rw [rD_eqv, decide_eq_true_eq] at z
        rw [if_pos z.symm] at lk
        walk_at "go"
        rw [lk] at h
        exact h
      · rw [rD_eqv, decide_eq_false_iff_not] at z
        rw [if_neg fun w => z w.symm] at lk
        walk_at "go"
        refine ⟨q.num, q.den, e.1.num, e.1.den, rfl, bq.1, bq.2, be.1, be.2, ?_⟩
        rw [below_iff]
        refine ⟨_, rfl, fun w => ?_, fun w => ?_⟩
        · have w := of_decide_eq_true w
          rw [if_pos w] at lk
          walk_at "go"
          rw [lk] at h
          exact h
        · have w := of_decide_eq_false w
          walk_at "go"
          refine ⟨_, _, _, by rw [en]; rfl, fun x mx => ?_⟩
          rw [tk] at mx
          rcases List.mem_append.mp mx with mx | mx
          · exact J x mx
          · rw [List.mem_singleton.mp mx]
            grind
    obtain ⟨a, b, c, rfl, J⟩ := I
    rw [List.length_map, List.take_length] at J ⊢
    walk_at "go"
    rw [look_end (acc := 0) J] at h
    exact h
theorem ok_p_step_sum (B : Bi K mg) (DF : Df K mg "step_sum" s_p_step_sum ["steps"]) :
    Cal P w K mg base 1 "step_sum" ["steps"] (spD K gStepSum) := by
  have m_sum := B.b_sum
  refine cal_of DF fun f fd Fu => FnG.dat Fu sc_p_step_sum (fun ds R h => ?_) (fun cdv A outer s H E gd hr F hF ds R h => ?_)
  · obtain ⟨s, rfl, ls, h⟩ := h
    rfl
  · obtain ⟨s, rfl, ls, h⟩ := h
    refine ⟨_, (pss_one (ps_ret (pe_callB (cr_sum rfl) (by rfl) m_sum (by decide +kernel) (pa_cons (pe_lc (own := [("height", 1), ("at", 2), ("behind", 3)]) (g := gTup K 3 (gCons (gName 1) (gCons (gName 2) (gCons (gName 3) (gNil))))) rfl sc_p_step_sum.nd (pi_tup (pv 0)) (blkOk_by (own := [("height", 1), ("at", 2), ("behind", 3)]) (N := N_p_step_sum) (sc := defScope s_p_step_sum) (by decide +kernel)) (fun _ _ _ _ _ => (pg_tup rfl (pgs_cons (pg_name (i := 1) sc_p_step_sum.nd rfl (Or.inl rfl)) (pgs_cons (pg_name (i := 2) sc_p_step_sum.nd rfl (Or.inl rfl)) (pgs_cons (pg_name (i := 3) sc_p_step_sum.nd rfl (Or.inl rfl)) pgs_nil))))) (fun _ _ _ _ _ => pts_nil) (fun _ _ _ _ _ => (pe_op op_subX (pv 2) (pv 3)))) pa_nil)))), ?_⟩
    dsimp only [cxOf, Cx.wish, startS, drawS, lawS, N_p_step_sum, List.map, List.length, List.replicate, List.append, List.set, List.cons_append, List.nil_append]
    walk_at "go"
    refine v_mapG w_tup (gw_tup (gws_cons (gw_name (by simp)) (gws_cons (gw_name (by simp)) (gws_cons (gw_name (by simp)) gws_nil)))) (fun v => .int ((toE v).2.1 - (toE v).2.2)) ?_
    walk_at "go"
    refine ⟨by rw [List.length_map]; omega, fun x hx => ?_, ?_⟩
    · obtain ⟨e, me, rfl⟩ := List.mem_map.mp hx
      rw [toE_entD]
      dsimp only [wipeS, List.set, entD]
      walk_at "go"
      rfl
    rw [map_via toE_entD (fun e => PyData.int (e.2.1 - e.2.2))]
    refine a_nil ⟨s.map fun e => e.2.1 - e.2.2, by rw [List.map_map]; rfl, ?_⟩
    exact h
theorem ok_p_added_steps (B : Bi K mg) (DF : Df K mg "added_steps" s_p_added_steps ["one", "other"])
    (C_p_ascending : Cal P w K mg base 2 "ascending" ["fractions"] (spD K gAscF))
    (C_p_in_form : Cal P w K mg base 2 "in_form" ["entries"] (spD K gInForm))
    (C_p_looks_at : Cal P w K mg base 2 "looks_at" ["steps", "height"] (spD K gLooksAt)) :
    Cal P w K mg base 3 "added_steps" ["one", "other"] (spD K gAddS) := by
  refine cal_of DF fun f fd Fu => FnG.dat Fu sc_p_added_steps (fun ds R h => ?_) (fun cdv A outer s H E gd hr F hF ds R h => ?_)
  · obtain ⟨D, E, rs, ss, s, t, rfl, LS, LT, lr, ls, hD, h⟩ := h
    rfl
  · obtain ⟨D, E, rs, ss, s, t, rfl, LS, LT, lr, ls, hD, h⟩ := h
    refine ⟨_, (pss_cons (ps_setO (i := 2) sc_p_added_steps.nd rfl (.inl rfl) (pe_lst pa_nil))
      (pss_cons (ps_for PassesOwn.never rfl (pi_list (pe_c C_p_ascending (hr.mono (by decide)) gd (by rfl) (pa_cons (pe_lc (own := [("entry", 6)]) (g := gName 6) rfl sc_p_added_steps.nd (pi_tup (pe_op (op_catAK (K := K) rfl) (pv 0) (pv 1))) (blkOk_by (own := [("entry", 6)]) (N := N_p_added_steps) (sc := defScope s_p_added_steps) (by decide +kernel)) (fun _ _ _ _ _ => (pg_name (i := 6) sc_p_added_steps.nd rfl (Or.inl rfl))) (fun _ _ _ _ _ => pts_nil) (fun _ _ _ _ _ => (pe_ix (ix_seqK (K := K) rfl) (pv 6) pe_int (fun _ _ => rfl)))) pa_nil))) (pg_name (i := 3) sc_p_added_steps.nd rfl (Or.inl rfl))
        (pss_cons (ps_par (i := 4) (j := 5) rfl sc_p_added_steps.nd rfl rfl (by decide) rfl rfl (pa_cons (pe_c C_p_looks_at (hr.mono (by decide)) gd (by rfl) (pa_cons (pv 0) (pa_cons (pv 3) pa_nil))) (pa_cons (pe_c C_p_looks_at (hr.mono (by decide)) gd (by rfl) (pa_cons (pv 1) (pa_cons (pv 3) pa_nil))) pa_nil)) rfl)
          (pss_one (ps_expr (pe_bm PySem.F.plainAttrs_list PySem.F.slot_list_append PySem.F.type_list_append mt_append (pv 2) (pa_cons (pe_tup (pa_cons (pv 3) (pa_cons (pe_op op_addX (pe_ix (ix_seqK (K := K) rfl) (pv 4) pe_int (fun _ _ => rfl)) (pe_ix (ix_seqK (K := K) rfl) (pv 5) pe_int (fun _ _ => rfl))) (pa_cons (pe_op op_addX (pe_ix (ix_seqK (K := K) rfl) (pv 4) pe_int (fun _ _ => rfl)) (pe_ix (ix_seqK (K := K) rfl) (pv 5) pe_int (fun _ _ => rfl))) pa_nil)))) pa_nil))))))
      (pss_one (ps_ret (pe_c C_p_in_form (hr.mono (by decide)) gd (by rfl) (pa_cons (pv 2) pa_nil)))))), ?_⟩
    dsimp only [cxOf, Cx.wish, startS, drawS, lawS, N_p_added_steps, List.map, List.length, List.replicate, List.append, List.set, List.cons_append, List.nil_append]
    have Z1 := LS.t.of LS.ok
    have Z2 := LT.t.of LT.ok
    have l1 := Z1.l
    have l2 := Z2.l
    have k1 : ∀ e ∈ s, Rk 100 e.1 := fun e m => by
      obtain ⟨r, mr, w | w⟩ := Z1.m e m
      · rw [w]; exact (LS.k r mr).1
      · rw [w]; exact (LS.k r mr).2
    have k2 : ∀ e ∈ t, Rk 100 e.1 := fun e m => by
      obtain ⟨r, mr, w | w⟩ := Z2.m e m
      · rw [w]; exact (LT.k r mr).1
      · rw [w]; exact (LT.k r mr).2
    have d1 : ∀ e ∈ s, (e.1.den : Int) ∣ D * E := fun e m => by
      obtain ⟨r, mr, w | w⟩ := Z1.m e m
      · rw [w]; exact Int.dvd_trans (LS.d.dvd r mr).1 ⟨_, rfl⟩
      · rw [w]; exact Int.dvd_trans (LS.d.dvd r mr).2 ⟨_, rfl⟩
    have d2 : ∀ e ∈ t, (e.1.den : Int) ∣ D * E := fun e m => by
      obtain ⟨r, mr, w | w⟩ := Z2.m e m
      · rw [w]; exact Int.dvd_trans (LT.d.dvd r mr).1 ⟨_, Int.mul_comm ..⟩
      · rw [w]; exact Int.dvd_trans (LT.d.dvd r mr).2 ⟨_, Int.mul_comm ..⟩
    walk_at "go"
    refine s_for w_list ?_
    walk_at "go"
    refine v_map w_tup (by simp) (fun v => rD (toE v).1) ?_
    walk_at "go"
    rw [← List.map_append]
    refine ⟨by rw [List.length_map, List.length_map]; omega, _, rfl, by rw [List.length_map, List.length_append]; omega, fun v hv => ?_, ?_⟩
    · obtain ⟨e, me, rfl⟩ := List.mem_map.mp hv
      rw [toE_entD]
      dsimp only [wipeS, List.set, entD, List.replicate]
      walk_at "go"
      rfl
    rw [map_via toE_entD (fun e => rD e.1)]
    have em : (s ++ t).map (fun e => rD e.1) = ((s ++ t).map (·.1)).map rD := by
      rw [List.map_map]
      rfl
    rw [em]
    refine a_nil ⟨_, _, D * E, rfl, .inl ⟨_, .inl rfl, rfl⟩, by rw [List.length_map, List.length_append]; omega, ⟨Int.mul_pos LS.d.pos LT.d.pos, hD, fun x m => ?_, fun x m => ?_⟩, fun T A mT => ?_⟩
    · obtain ⟨e, me, rfl⟩ := List.mem_map.mp m
      rcases List.mem_append.mp me with me | me
      · exact d1 e me
      · exact d2 e me
    · obtain ⟨e, me, rfl⟩ := List.mem_map.mp m
      rcases List.mem_append.mp me with me | me
      · exact (k1 e me).up (by decide)
      · exact (k2 e me).up (by decide)
    have kT : ∀ x ∈ T, Rk 100 x := fun x m => by
      obtain ⟨e, me, rfl⟩ := List.mem_map.mp ((mT x).mp m)
      rcases List.mem_append.mp me with me | me
      · exact k1 e me
      · exact k2 e me
    have lT := asc_rat_len A fun x m => (mT x).mp m
    rw [List.length_map, List.length_append] at lT
    have cr : Crit T (V3 (rs ++ ss)) := by
      have e : V3 (rs ++ ss) = fun h => addT (V3 rs h) (V3 ss h) := funext fun h => V3_append rs ss h
      rw [e]
      exact (LS.t.crit.more fun x m => (mT x).mpr (by rw [List.map_append]; exact List.mem_append.mpr (.inl m))).add (LT.t.crit.more fun x m => (mT x).mpr (by rw [List.map_append]; exact List.mem_append.mpr (.inr m)))
    have te := tells_map A cr
    refine ⟨_, rfl, ?_⟩
    dsimp only [List.set, List.replicate]
    refine ⟨fun i δ' => ∃ a b c d : Sl, δ' = [.dat (.tuple (s.map entD)), .dat (.tuple (t.map entD)), .own (((T.take i).map (ent (V3 (rs ++ ss)))).map entD), a, b, c, d], ⟨_, _, _, _, rfl⟩, fun i u δ' hi I => ?_, fun δ' I => ?_⟩
    · obtain ⟨a, b, c, d, rfl⟩ := I
      rw [List.getElem?_map] at hi
      obtain ⟨q, hq, rfl⟩ := Option.map_eq_some_iff.mp hi
      have kq := kT q (List.mem_of_getElem? hq)
      have li := (List.getElem?_eq_some_iff.mp hq).1
      have tk := take_snoc hq
      walk_at "go"
      refine ⟨s, q, rfl, LS.t.asc, by omega, k1, kq, ?_⟩
      rw [LS.t.look]
      walk_at "go"
      refine ⟨t, q, rfl, LT.t.asc, by omega, k2, kq, ?_⟩
      rw [LT.t.look]
      walk_at "go"
      refine ⟨by rw [List.length_map, List.length_map, List.length_take]; omega, ?_⟩
      dsimp only [List.set]
      refine ⟨.dat (rD q), .dat (.tuple [.int (V3 rs q).2.1, .int (V3 rs q).2.2]), .dat (.tuple [.int (V3 ss q).2.1, .int (V3 ss q).2.2]), d, ?_⟩
      rw [tk, List.map_append, List.map_append]
      have ev : V3 (rs ++ ss) q = addT (V3 rs q) (V3 ss q) := V3_append rs ss q
      have e2 : (T.take i).map (ent (V3 (rs ++ ss))) = (T.take i).map (ent (V3 (rs ++ ss))) := rfl
      show _ = [_, _, Sl.own (_ ++ [entD (q, (V3 (rs ++ ss) q).2)]), _, _, _, _]
      rw [ev]
      rfl
    obtain ⟨a, b, c, d, rfl⟩ := I
    rw [List.length_map, List.take_length]
    refine s_rel (i := 2) rfl ?_
    walk_at "go"
    refine ⟨_, rfl, by rw [List.length_map]; omega, ?_⟩
    exact h _ te
theorem ok_p_mirrored_steps (B : Bi K mg) (DF : Df K mg "mirrored_steps" s_p_mirrored_steps ["steps"])
    (C_p_behinds_ahead : Cal P w K mg base 1 "behinds_ahead" ["steps"] (spD K gBehLT)) :
    Cal P w K mg base 2 "mirrored_steps" ["steps"] (spD K gMirS) := by
  have m_tuple := B.b_tuple
  have m_zip := B.b_zip
  refine cal_of DF fun f fd Fu => FnG.dat Fu sc_p_mirrored_steps (fun ds R h => ?_) (fun cdv A outer s H E gd hr F hF ds R h => ?_)
  · obtain ⟨s, rfl, ls, h⟩ := h
    rfl
  · obtain ⟨s, rfl, ls, h⟩ := h
    refine ⟨_, (pss_cons (ps_setLc (i := 1) (own := [("ahead", 2), ("here", 3), ("at", 4), ("behind", 5)]) (g := gTup K 2 (gCons (gTup K 3 (gCons (gName 3) (gCons (gName 4) (gCons (gName 5) (gNil))))) (gCons (gName 2) (gNil)))) rfl sc_p_mirrored_steps.nd rfl rfl (sw_true rfl rfl rfl (by decide +kernel)) (pi_zipM (K := K) rfl (by rfl) m_zip (pa_cons (pv 0) (pa_cons (pe_c C_p_behinds_ahead (hr.mono (by decide)) gd (by rfl) (pa_cons (pv 0) pa_nil)) pa_nil))) (blkOk_by (own := [("ahead", 2), ("here", 3), ("at", 4), ("behind", 5)]) (N := N_p_mirrored_steps) (sc := defScope s_p_mirrored_steps) (by decide +kernel)) (fun _ _ _ _ _ => (pg_tup rfl (pgs_cons (pg_tup rfl (pgs_cons (pg_name (i := 3) sc_p_mirrored_steps.nd rfl (Or.inl rfl)) (pgs_cons (pg_name (i := 4) sc_p_mirrored_steps.nd rfl (Or.inl rfl)) (pgs_cons (pg_name (i := 5) sc_p_mirrored_steps.nd rfl (Or.inl rfl)) pgs_nil)))) (pgs_cons (pg_name (i := 2) sc_p_mirrored_steps.nd rfl (Or.inl rfl)) pgs_nil)))) (fun _ _ _ _ _ => pts_nil) (fun _ _ _ _ _ => (pe_tup (pa_cons (pe_tup (pa_cons (pe_un un_neg (pe_ix (ix_seqK (K := K) rfl) (pv 3) pe_int (fun _ _ => rfl))) (pa_cons (pe_ix (ix_seqK (K := K) rfl) (pv 3) pe_int (fun _ _ => rfl)) pa_nil))) (pa_cons (pv 4) (pa_cons (pv 2) pa_nil))))))
      (pss_one (ps_ret (pe_callTy call_tuple_of (by rfl) m_tuple (by decide +kernel) (pa_cons (pe_revL (pv 1)) pa_nil))))), ?_⟩
    dsimp only [cxOf, Cx.wish, startS, drawS, lawS, N_p_mirrored_steps, List.map, List.length, List.replicate, List.append, List.set, List.cons_append, List.nil_append]
    walk_at "go"
    refine v_mapR w_zipM (gw_tup (gws_cons (gw_tup (gws_cons (gw_name (by simp)) (gws_cons (gw_name (by simp)) (gws_cons (gw_name (by simp)) gws_nil)))) (gws_cons (gw_name (by simp)) gws_nil))) (aheadE 0 s) aeD entD (fun p q => q = ((-p.1.1, p.1.2.1, p.2) : E3)) ?_
    walk_at "go"
    refine ⟨s, _, rfl, .inr rfl, by omega, ?_⟩
    refine a_nil ⟨_, _, rfl, ?_⟩
    refine ⟨zip_ahead_D s, by rw [aheadE_len]; omega, fun p mp => ?_, fun M hM => ?_⟩
    · dsimp only [wipeS, List.set, aeD, entD, List.replicate]
      walk_at "go"
      exact ⟨_, rfl, rfl⟩
    have eM := hM.toFn
    subst eM
    walk_at "go"
    rw [← List.map_reverse]
    exact h
theorem ok_p_stretches (B : Bi K mg) (DF : Df K mg "stretches" s_p_stretches ["steps"])
    (C_p_behinds_ahead : Cal P w K mg base 1 "behinds_ahead" ["steps"] (spD K gBehLT)) :
    Cal P w K mg base 2 "stretches" ["steps"] (spD K gStrS) := by
  have m_enumerate := B.b_enumerate
  have m_zip := B.b_zip
  refine cal_of DF fun f fd Fu => FnG.dat Fu sc_p_stretches (fun ds R h => ?_) (fun cdv A outer s H E gd hr F hF ds R h => ?_)
  · obtain ⟨s, rfl, ls, z, h⟩ := h
    rfl
  · obtain ⟨s, rfl, ls, z, h⟩ := h
    refine ⟨_, (pss_cons (ps_setO (i := 1) sc_p_stretches.nd rfl (.inl rfl) (pe_lst pa_nil))
      (pss_cons (ps_for PassesOwn.never rfl (pi_enumZip (K := K) rfl (by rfl) m_enumerate (by rfl) m_zip (pa_cons (pv 0) (pa_cons (pe_c C_p_behinds_ahead (hr.mono (by decide)) gd (by rfl) (pa_cons (pv 0) pa_nil)) pa_nil))) (pg_tup rfl (pgs_cons (pg_name (i := 2) sc_p_stretches.nd rfl (Or.inl rfl)) (pgs_cons (pg_tup rfl (pgs_cons (pg_tup rfl (pgs_cons (pg_name (i := 5) sc_p_stretches.nd rfl (Or.inl rfl)) (pgs_cons (pg_name (i := 6) sc_p_stretches.nd rfl (Or.inl rfl)) (pgs_cons (pg_name (i := 7) sc_p_stretches.nd rfl (Or.inl rfl)) pgs_nil)))) (pgs_cons (pg_name (i := 3) sc_p_stretches.nd rfl (Or.inl rfl)) pgs_nil))) pgs_nil)))
        (pss_cons (ps_expr (pe_bm PySem.F.plainAttrs_list PySem.F.slot_list_append PySem.F.type_list_append mt_append (pv 1) (pa_cons (pe_tup (pa_cons (pv 5) (pa_cons (pv 5) (pa_cons (pe_op op_subX (pe_op op_subX (pv 6) (pv 7)) (pv 3)) pa_nil)))) pa_nil)))
          (pss_one (ps_if (pt_cmpR (op_neX hr.units) (pv 7) pe_int (nomark _))
            (pss_one (ps_expr (pe_bm PySem.F.plainAttrs_list PySem.F.slot_list_append PySem.F.type_list_append mt_append (pv 1) (pa_cons (pe_tup (pa_cons (pv 5) (pa_cons (pe_ix (ix_seqK (K := K) rfl) (pe_ix (ix_seqK (K := K) rfl) (pv 0) (pe_op op_addX (pv 2) pe_int) (fun _ _ => rfl)) pe_int (fun _ _ => rfl)) (pa_cons (pv 7) pa_nil)))) pa_nil))))
            pss_nil))))
      (pss_one (ps_ret (pe_lc (own := [("row", 4)]) (g := gName 4) rfl sc_p_stretches.nd (pi_list (pv 1)) (blkOk_by (own := [("row", 4)]) (N := N_p_stretches) (sc := defScope s_p_stretches) (by decide +kernel)) (fun _ _ _ _ _ => (pg_name (i := 4) sc_p_stretches.nd rfl (Or.inl rfl))) (fun _ _ _ _ _ => pts_one (pt_cmpR (op_neXK (K := K) rfl hr.units) (pe_ix (ix_seqK (K := K) rfl) (pv 4) pe_int (fun _ _ => rfl)) pe_int (nomark _))) (fun _ _ _ _ _ => (pv 4))))))), ?_⟩
    dsimp only [cxOf, Cx.wish, startS, drawS, lawS, N_p_stretches, List.map, List.length, List.replicate, List.append, List.set, List.cons_append, List.nil_append]
    have lq := strQ_len (acc := 0) (s := s)
    walk_at "go"
    refine s_for w_enumZip ?_
    walk_at "go"
    refine ⟨s, _, rfl, .inr rfl, by omega, ?_⟩
    refine a_nil ⟨_, _, rfl, ?_⟩
    dsimp only [List.set, List.replicate]
    refine ⟨fun i δ' => ∃ (fs : List Rw) (a b c d e : Sl), δ' = [.dat (.tuple (s.map entD)), .own (fs.map rwD), a, b, .no, c, d, e] ∧ fs ++ strQ (endE 0 (s.take i)) (s.drop i) = strQ 0 s, ⟨[], _, _, _, _, _, rfl, rfl⟩, fun i u δ' hi I => ?_, fun δ' I => ?_⟩
    · obtain ⟨fs, a, b, c, d, e, rfl, J⟩ := I
      obtain ⟨x, hx, rfl⟩ := enum_zip hi
      have dr := drop_at hx
      have tk := take_snoc hx
      have en := endE_snoc (acc := 0) (e := x) (s := s.take i)
      rw [← tk] at en
      have li := (List.getElem?_eq_some_iff.mp hx).1
      rw [dr] at J
      have J2 : fs ++ (⟨x.1, x.1, x.2.1 - x.2.2 - endE 0 (s.take i)⟩ :: ((if x.2.2 ≠ 0 then (match s.drop (i + 1) with | [] => [] | e :: _ => [⟨x.1, e.1, x.2.2⟩]) else []) ++ strQ x.2.2 (s.drop (i + 1)))) = strQ 0 s := J
      have lf : fs.length + 1 ≤ 20000 := by
        have := congrArg List.length J2
        rw [List.length_append, List.length_cons] at this
        omega
      clear J
      dsimp only [entD]
      walk_at "go"
      refine ⟨by rw [List.length_map]; omega, ?_⟩
      walk_at "go"
      have eb : (!(PyData.int x.2.2).eqv (.int 0)) = decide (x.2.2 ≠ 0) := by
        show (!decide (x.2.2 = 0)) = _
        by_cases w : x.2.2 = 0
        · rw [decide_eq_true w, decide_eq_false fun v => v w]; rfl
        · rw [decide_eq_false w, decide_eq_true w]; rfl
      rw [eb]
      refine ⟨fun w => ?_, fun w => ?_⟩
      · have w := of_decide_eq_true w
        have l1 : i + 1 < s.length := by
          rcases Nat.lt_or_ge (i + 1) s.length with v | v
          · exact v
          · rw [List.take_of_length_le v, z] at en
            exact (w en.symm).elim
        have e1 : s[i + 1]? = some s[i + 1] := List.getElem?_eq_getElem l1
        have d1 := drop_at e1
        generalize s[i + 1] = y at e1 d1
        rw [if_pos w, d1] at J2
        rw [d1, en]
        have a1 : atI (s.map entD) ((i : Int) + 1) = some (entD y) := by
          rw [show (i : Int) + 1 = ((i + 1 : Nat) : Int) by omega]
          obtain ⟨_, rfl⟩ := List.getElem?_eq_some_iff.mp e1
          exact atI_map l1
        walk_at "go"
        refine ⟨_, _, _, rfl, rfl, a1, ?_⟩
        walk_at "go"
        refine ⟨by rw [List.length_append, List.length_map]; show fs.length + 1 < _; omega, ?_⟩
        dsimp only [List.set]
        refine ⟨fs ++ [⟨x.1, x.1, x.2.1 - x.2.2 - endE 0 (s.take i)⟩, ⟨x.1, y.1, x.2.2⟩], .dat (.int i), .dat (.int (endE 0 (s.take i))), .dat (rD x.1), .dat (.int x.2.1), .dat (.int x.2.2), ?_, ?_⟩
        · rw [List.map_append, List.append_assoc]
          rfl
        · rw [List.append_assoc]
          exact J2
      · have w := of_decide_eq_false w
        rw [if_neg w] at J2
        rw [en]
        walk_at "go"
        dsimp only [List.set]
        refine ⟨fs ++ [⟨x.1, x.1, x.2.1 - x.2.2 - endE 0 (s.take i)⟩], .dat (.int i), .dat (.int (endE 0 (s.take i))), .dat (rD x.1), .dat (.int x.2.1), .dat (.int x.2.2), ?_, ?_⟩
        · rw [List.map_append]
          rfl
        · rw [List.append_assoc]
          exact J2
    obtain ⟨fs, a, b, c, d, e, rfl, J⟩ := I
    have el : (enumD 0 (zipD (s.map entD) ((behL s).map .int))).length = s.length := by
      rw [enumD_len, zipD_len, List.length_map, List.length_map]
      have := behL_len (s := s)
      omega
    rw [el, List.drop_length] at J
    have J : fs = strQ 0 s := by
      rw [← J]
      exact (List.append_nil _).symm
    subst J
    refine s_rel (i := 1) rfl ?_
    walk_at "go"
    refine v_filter w_list (by simp) (fun v => decide ((toRw v).n ≠ 0)) (fun v => v) ?_
    walk_at "go"
    refine ⟨by rw [List.length_map]; omega, fun v hv => ?_, fun v hv _ => ?_, ?_⟩
    · obtain ⟨r, mr, rfl⟩ := List.mem_map.mp hv
      rw [toRw_rwD]
      dsimp only [wipeS, List.set, rwD, List.replicate]
      walk_at "go"
      show (!decide (r.n = 0)) = _
      by_cases w : r.n = 0
      · rw [decide_eq_true w, decide_eq_false fun v => v w]; rfl
      · rw [decide_eq_false w, decide_eq_true w]; rfl
    · walk_at "go"
      rfl
    rw [List.map_id', filter_via toRw_rwD (fun r => decide (r.n ≠ 0)), strQ_filter]
    exact h
theorem ok_p_put_steps (B : Bi K mg) (DF : Df K mg "put_steps" s_p_put_steps ["one", "other"])
    (C_p_stretches : Cal P w K mg base 2 "stretches" ["steps"] (spD K gStrS))
    (C_p_steps_of : Cal P w K mg base 5 "steps_of" ["rows"] (spD K gStepsP))
    (C_p_plus : Cal P w K mg base 2 "plus" ["s", "t"] (spD K gPlus)) :
    Cal P w K mg base 6 "put_steps" ["one", "other"] (spD K gPutS) := by
  refine cal_of DF fun f fd Fu => FnG.dat Fu sc_p_put_steps (fun ds R h => ?_) (fun cdv A outer s H E gd hr F hF ds R h => ?_)
  · obtain ⟨i, j, D, E, rs, ss, s, t, rfl, LS, LT, hij, l3, lr, ls, hD, h⟩ := h
    rfl
  · obtain ⟨i, j, D, E, rs, ss, s, t, rfl, LS, LT, hij, l3, lr, ls, hD, h⟩ := h
    refine ⟨_, (pss_cons (ps_setO (i := 2) sc_p_put_steps.nd rfl (.inl rfl) (pe_lst pa_nil))
      (pss_cons (ps_for PassesOwn.never rfl (pi_list (pe_c C_p_stretches (hr.mono (by decide)) gd (by rfl) (pa_cons (pv 0) pa_nil))) (pg_tup rfl (pgs_cons (pg_name (i := 3) sc_p_put_steps.nd rfl (Or.inl rfl)) (pgs_cons (pg_name (i := 4) sc_p_put_steps.nd rfl (Or.inl rfl)) (pgs_cons (pg_name (i := 5) sc_p_put_steps.nd rfl (Or.inl rfl)) pgs_nil))))
        (pss_one (ps_for PassesOwn.never rfl (pi_list (pe_c C_p_stretches (hr.mono (by decide)) gd (by rfl) (pa_cons (pv 1) pa_nil))) (pg_tup rfl (pgs_cons (pg_name (i := 6) sc_p_put_steps.nd rfl (Or.inl rfl)) (pgs_cons (pg_name (i := 7) sc_p_put_steps.nd rfl (Or.inl rfl)) (pgs_cons (pg_name (i := 8) sc_p_put_steps.nd rfl (Or.inl rfl)) pgs_nil))))
            (pss_one (ps_expr (pe_bm PySem.F.plainAttrs_list PySem.F.slot_list_append PySem.F.type_list_append mt_append (pv 2) (pa_cons (pe_tup (pa_cons (pe_c C_p_plus (hr.mono (by decide)) gd (by rfl) (pa_cons (pv 3) (pa_cons (pv 6) pa_nil))) (pa_cons (pe_c C_p_plus (hr.mono (by decide)) gd (by rfl) (pa_cons (pv 4) (pa_cons (pv 7) pa_nil))) (pa_cons (pe_op op_mulX (pv 5) (pv 8)) pa_nil)))) pa_nil)))))))
      (pss_one (ps_ret (pe_c C_p_steps_of (hr.mono (by decide)) gd (by rfl) (pa_cons (pv 2) pa_nil)))))), ?_⟩
    dsimp only [cxOf, Cx.wish, startS, drawS, lawS, N_p_put_steps, List.map, List.length, List.replicate, List.append, List.set, List.cons_append, List.nil_append]
    have Z1 := LS.t.of LS.ok
    have Z2 := LT.t.of LT.ok
    have l1 := Z1.l
    have l2 := Z2.l
    have z1 := tells_end LS.t LS.ok
    have z2 := tells_end LT.t LT.ok
    obtain ⟨v1, o1, k1, d1, n1, w1⟩ := LS.str
    obtain ⟨v2, o2, k2, d2, n2, w2⟩ := LT.str
    walk_at "go"
    refine s_for w_list ?_
    walk_at "go"
    refine ⟨s, rfl, by omega, z1, ?_⟩
    generalize strR s = xs at *
    dsimp only [List.set, List.replicate]
    refine ⟨_, rfl, fun m δ' => ∃ a b c d e f : Sl, δ' = [.dat (.tuple (s.map entD)), .dat (.tuple (t.map entD)), .own ((pairsR (xs.take m) (strR t)).map rwD), a, b, c, d, e, f], ⟨_, _, _, _, _, _, rfl⟩, fun m u δ' hi I => ?_, fun δ' I => ?_⟩
    · obtain ⟨a, b, c, d, e, f, rfl⟩ := I
      rw [List.getElem?_map] at hi
      obtain ⟨r, hr, rfl⟩ := Option.map_eq_some_iff.mp hi
      have mr := List.mem_of_getElem? hr
      have li := (List.getElem?_eq_some_iff.mp hr).1
      have tk := take_snoc hr
      dsimp only [rwD]
      walk_at "go"
      refine s_for w_list ?_
      walk_at "go"
      refine ⟨t, rfl, by omega, z2, ?_⟩
      generalize strR t = ys at *
      have lx : (pairsR (xs.take m) ys).length ≤ 16 * 300 := by
        rw [Pg.pairs_len, List.length_take]
        have := Nat.mul_le_mul (Nat.le_trans (Nat.min_le_right m xs.length) n1) n2
        have e : 4 * rs.length * (4 * ss.length) = 16 * (rs.length * ss.length) := by grind
        omega
      have ly : ys.length ≤ 400 := by omega
      refine ⟨_, rfl, fun n δ' => ∃ a b c : Sl, δ' = [.dat (.tuple (s.map entD)), .dat (.tuple (t.map entD)), .own ((pairsR (xs.take m) ys ++ (ys.take n).map (prR r)).map rwD), .dat (rD r.lo), .dat (rD r.hi), .dat (.int r.n), a, b, c], ⟨d, e, f, by rw [List.take_zero, List.map_nil, List.append_nil]; rfl⟩, fun n u δ' hi I => ?_, fun δ' I => ?_⟩
      · obtain ⟨a, b, c, rfl⟩ := I
        rw [List.getElem?_map] at hi
        obtain ⟨q, hq, rfl⟩ := Option.map_eq_some_iff.mp hi
        have mq := List.mem_of_getElem? hq
        have ln := (List.getElem?_eq_some_iff.mp hq).1
        have tk2 := take_snoc hq
        have b1 := (k1 r mr).1.bn (by omega)
        have b2 := (k1 r mr).2.bn (by omega)
        have b3 := (k2 q mq).1.bn (by omega)
        have b4 := (k2 q mq).2.bn (by omega)
        dsimp only [rwD]
        walk_at "go"
        refine ⟨r.lo.num, r.lo.den, q.lo.num, q.lo.den, rfl, Int.ne_of_gt (den0 r.lo), Int.ne_of_gt (den0 q.lo), b1.1, b1.2, b3.1, b3.2, ?_⟩
        rw [frac_add]
        walk_at "go"
        refine ⟨r.hi.num, r.hi.den, q.hi.num, q.hi.den, rfl, Int.ne_of_gt (den0 r.hi), Int.ne_of_gt (den0 q.hi), b2.1, b2.2, b4.1, b4.2, ?_⟩
        rw [frac_add]
        walk_at "go"
        refine ⟨MlOk.w 62 62 (w1 r mr) (w2 q mq), ?_⟩
        walk_at "go"
        refine ⟨by rw [List.length_map, List.length_append, List.length_map, List.length_take]; omega, ?_⟩
        dsimp only [List.set]
        refine ⟨.dat (rD q.lo), .dat (rD q.hi), .dat (.int q.n), ?_⟩
        rw [tk2, List.map_append (f := prR r), ← List.append_assoc, List.map_append (f := rwD) (l₂ := List.map (prR r) [q])]
        rfl
      obtain ⟨a, b, c, rfl⟩ := I
      rw [List.length_map, List.take_length]
      dsimp only
      refine ⟨.dat (rD r.lo), .dat (rD r.hi), .dat (.int r.n), a, b, c, ?_⟩
      rw [tk, pairs_app]
      have e1 : pairsR [r] ys = ys.map (prR r) := List.append_nil _
      rw [e1]
    obtain ⟨a, b, c, d, e, f, rfl⟩ := I
    rw [List.length_map, List.take_length]
    refine s_rel (i := 2) rfl ?_
    walk_at "go"
    generalize strR t = ys at *
    refine ⟨pairsR xs ys, D * E, rfl, pairs_ok o1 o2, ?_, fun r m => ?_, ⟨(d1.pairs d2).pos, hD, (d1.pairs d2).dvd⟩, fun u U => h u ?_⟩
    · rw [Pg.pairs_len]
      have := Nat.mul_le_mul n1 n2
      have e : 4 * rs.length * (4 * ss.length) = 16 * (rs.length * ss.length) := by grind
      omega
    · have := rowsK_pairs k1 k2 r m
      exact ⟨this.1.up hij, this.2.up hij⟩
    rw [← put_congr o1 LS.ok o2 LT.ok v1 v2]
    exact U.t
theorem ok_p_tops_of (B : Bi K mg) (DF : Df K mg "tops_of" s_p_tops_of ["steps"]) :
    Cal P w K mg base 1 "tops_of" ["steps"] (spD K gTopsE) := by
  refine cal_of DF fun f fd Fu => FnG.dat Fu sc_p_tops_of (fun ds R h => ?_) (fun cdv A outer s H E gd hr F hF ds R h => ?_)
  · obtain ⟨s, rfl, ls, h⟩ := h
    rfl
  · obtain ⟨s, rfl, ls, h⟩ := h
    refine ⟨_, (pss_one (ps_ret (pe_lc (own := [("height", 1), ("at", 2), ("behind", 3)]) (g := gTup K 3 (gCons (gName 1) (gCons (gName 2) (gCons (gName 3) (gNil))))) rfl sc_p_tops_of.nd (pi_tup (pv 0)) (blkOk_by (own := [("height", 1), ("at", 2), ("behind", 3)]) (N := N_p_tops_of) (sc := defScope s_p_tops_of) (by decide +kernel)) (fun _ _ _ _ _ => (pg_tup rfl (pgs_cons (pg_name (i := 1) sc_p_tops_of.nd rfl (Or.inl rfl)) (pgs_cons (pg_name (i := 2) sc_p_tops_of.nd rfl (Or.inl rfl)) (pgs_cons (pg_name (i := 3) sc_p_tops_of.nd rfl (Or.inl rfl)) pgs_nil))))) (fun _ _ _ _ _ => pts_one (pt_cmpR (op_neXK (K := K) rfl hr.units) (pv 2) (pv 3) (nomark _))) (fun _ _ _ _ _ => (pe_tup (pa_cons (pv 1) (pa_cons (pe_op op_subX (pv 2) (pv 3)) pa_nil))))))), ?_⟩
    dsimp only [cxOf, Cx.wish, startS, drawS, lawS, N_p_tops_of, List.map, List.length, List.replicate, List.append, List.set, List.cons_append, List.nil_append]
    walk_at "go"
    refine v_filterG w_tup (gw_tup (gws_cons (gw_name (by simp)) (gws_cons (gw_name (by simp)) (gws_cons (gw_name (by simp)) gws_nil)))) (fun v => !decide ((toE v).2.1 = (toE v).2.2)) (fun v => p2D ((toE v).1, (toE v).2.1 - (toE v).2.2)) ?_
    walk_at "go"
    refine ⟨by rw [List.length_map]; omega, fun x hx => ?_, ?_⟩
    · obtain ⟨e, me, rfl⟩ := List.mem_map.mp hx
      rw [toE_entD]
      dsimp only [wipeS, List.set, entD]
      walk_at "go"
      refine ⟨rfl, fun _ => ?_⟩
      walk_at "go"
      rfl
    rw [filter_via toE_entD (fun e => !decide (e.2.1 = e.2.2)), map_via toE_entD (fun e => p2D (e.1, e.2.1 - e.2.2))]
    unfold topsE at h
    rw [List.map_map] at h
    rw [show (fun e : E3 => !decide (e.2.1 = e.2.2)) = fun e => decide (e.2.1 ≠ e.2.2) from funext fun _ => not_dec]
    exact h
theorem ok_l_open_cells (B : Bi K mg) (DF : Df K mg "_law_open_cells" s_l_open_cells ["_law_script"]) :
    Cal P w K mg base 1 "_law_open_cells" ["_law_script"] (spOpen K) := by
  have m_abs := B.b_abs
  have m_int := B.b_int
  refine cal_of DF fun f fd F => FnG.of_fun F sc_l_open_cells (fun vs H Q E h => ?_) (fun cdv A outer s H vs Q E gd hr h => ?_)
  · obtain ⟨a, ns, rfl, hS, hlen, q⟩ := h
    rfl
  · obtain ⟨a, ns, rfl, hS, hlen, q⟩ := h
    refine ⟨_, (pss_cons (ps_set (i := 1) sc_l_open_cells.nd rfl (.inl rfl) pe_int)
      (pss_cons (ps_for PassesOwn.never rfl (pi_list (pv 0)) (pg_name (i := 2) sc_l_open_cells.nd rfl (Or.inl rfl))
        (pss_one (ps_set (i := 1) sc_l_open_cells.nd rfl (.inl rfl) (pe_op op_modU (pe_callTy call_int1 (by rfl) m_int (by decide +kernel) (pa_cons (pe_op op_add (pe_op op_add (pe_op op_mulU (pv 1) pe_int) (pe_op op_mulU (pv 2) pe_int)) pe_int) pa_nil)) pe_int))))
      (pss_cons (ps_setLc (i := 3) (own := [("_law_cell", 2)]) (g := gName 2) rfl sc_l_open_cells.nd rfl rfl (sw_true rfl rfl rfl (by decide +kernel)) (pi_list (pv 0)) (blkOk_by (own := [("_law_cell", 2)]) (N := N_l_open_cells) (sc := defScope s_l_open_cells) (by decide +kernel)) (fun _ _ _ _ _ => (pg_name (i := 2) sc_l_open_cells.nd rfl (Or.inl rfl))) (fun _ _ _ _ _ => pts_nil) (fun _ _ _ _ _ => (pe_callB call_abs (by rfl) m_abs (by decide +kernel) (pa_cons (pv 2) pa_nil))))
      (pss_one (ps_ret (pe_disp (pps_cons pe_str (pe_revL (pv 3)) (pps_cons pe_str pe_int (pps_cons pe_str (pv 1) (pps_cons pe_str pe_int pps_nil)))) (by rfl) (by rfl) (fun z => by cases z) (by decide))))))), ?_⟩
    -- mixed = 11; for cell in script
    refine ⟨.ref a, rfl, a, rfl, ⟨_, hS⟩, for_list (xs := ns.map V.int) (fun i σ H' => H' = H ∧ ∃ (m : Int) (y : Option V), σ = [some (.ref a), some (.int m), y, none]) ⟨rfl, 11, none, rfl⟩
      (fun i σ H' _ z => by obtain ⟨rfl, _⟩ := z; exact hS) (fun i x σ H' hx z => ?_) (fun σ H' z => ?_)⟩
    · obtain ⟨rfl, m, y, rfl⟩ := z
      obtain ⟨n, _, rfl⟩ : ∃ n, n ∈ ns ∧ V.int n = x := List.mem_map.mp (List.mem_of_getElem? hx)
      refine ⟨_, rfl, _, _, rfl, rfl, .r (by decide) (by decide), _, rfl, _, _, rfl, rfl, .r (by decide) (by decide), ?_⟩
      refine ⟨_, _, rfl, rfl, _, _, rfl, rfl, .inl ⟨_, rfl, _, _, rfl, rfl, .c (by decide), ?_⟩⟩
      exact ⟨rfl, _, _, rfl⟩
    · obtain ⟨rfl, m, y, rfl⟩ := z
      -- digits = [abs(cell) ..]
      refine ⟨.ref a, rfl, a, rfl, ⟨_, hS⟩, fun D nD => ?_⟩
      refine lc_list (xs := ns.map V.int) (fun i H2 => Same H' H2 ∧ ∃ ks : List Int, H2 D = some (.lst (ks.map V.int)) ∧ ks.length = i ∧ i ≤ ns.length) ⟨same_new nD, [], upd_same, rfl, Nat.zero_le _⟩
        (fun i H2 _ z => z.1.seq hS) (fun i x H2 hx z => ?_) (fun H2 z => ?_)
      · obtain ⟨sm, ks, hk, hl, hi⟩ := z
        obtain ⟨n, _, rfl⟩ : ∃ n, n ∈ ns ∧ V.int n = x := List.mem_map.mp (List.mem_of_getElem? hx)
        have hlt : i < ns.length := by
          have := (List.getElem?_eq_some_iff.mp hx).1
          simpa using this
        refine ⟨rfl, yes_ite ?_⟩
        refine ⟨_, rfl, n, rfl, _, hk, small1000 (by rw [List.length_map]; omega), fun b o e => ?_, ks ++ [if n < 0 then -n else n], ?_, by rw [List.length_append, hl]; rfl, hlt⟩
        · rw [upd_ne (ne_of_none e nD)]
          exact sm _ _ e
        · rw [upd_same, List.map_append]
          rfl
      · obtain ⟨sm, ks, hk, _, _⟩ := z
        have nD2 : H' D = none := nD
        -- the dict
        refine fun p np => ⟨.ref D, rfl, D, ks.map V.int, rfl, ?_, fun c nc => ⟨_, rfl, ?_, srcKV c 1 m 0, rfl, by show 4 ≤ 15; decide, ?_⟩⟩
        · exact .inl (.inl (by rw [upd_ne (ne_of_none hk np)]; exact hk))
        · have n1 : c ≠ p := fun e => by
            rw [e, upd_same] at nc
            cases nc
          rw [upd_ne n1.symm, upd_same]
        · have n1 : c ≠ p := fun e => by
            rw [e, upd_same] at nc
            cases nc
          have nc2 : H2 c = none := by
            rw [upd_ne n1] at nc
            exact nc
          refine q _ p c (fun b o e => ?_) (sm.free np) (sm.free nc2) ⟨1, m, 0, ks.reverse, ?_, ?_⟩
          · have e2 := sm _ _ e
            rw [upd_ne (ne_of_none e2 np), upd_ne (ne_of_none e2 nc2), upd_ne (ne_of_none e2 np)]
            exact e2
          · rw [upd_same, src_made]
          · rw [upd_ne n1, upd_same, List.map_reverse]
theorem ok_l_pick (B : Bi K mg) (DF : Df K mg "_law_pick" s_l_pick ["_law_source", "_law_most"]) :
    Cal P w K mg base 1 "_law_pick" ["_law_source", "_law_most"] spPick := by
  have m_int := B.b_int
  have m_len := B.b_len
  refine cal_of DF fun f fd F => FnG.of_fun F sc_l_pick (fun vs H Q E h => ?_) (fun cdv A outer s H vs Q E gd hr h => ?_)
  · obtain ⟨a, c, n, rfl, S, hn, q⟩ := h
    rfl
  · obtain ⟨a, c, n, rfl, S, hn, q⟩ := h
    refine ⟨_, (pss_cons (ps_if (pt_cmpR op_lt (pv 1) pe_int (nomark _))
        (pss_one (ps_ret pe_int))
        pss_nil)
      (pss_cons (ps_set (i := 2) sc_l_pick.nd rfl (.inl rfl) (pe_dget (hu_of hr) (pv 0) pe_str (fun _ _ => rfl)))
      (pss_cons (ps_while PassesOwn.never ((pw_and (pt_cmpR op_lt (pe_dget (hu_of hr) (pv 0) pe_str (fun _ _ => rfl)) pe_int (nomark _)) (pw_and1 (pt_cmpR op_gt (pe_callB call_len_seq (by rfl) m_len (by decide +kernel) (pa_cons (pv 2) pa_nil)) pe_int (nomark _))))).pt
        (pss_one (ps_dput (hu_of hr) (pv 0) pe_str (pe_bm0 PySem.F.plainAttrs_list PySem.F.slot_list_pop PySem.F.type_list_pop mt_pop (pv 2)) rfl)))
      (pss_cons (ps_set (i := 3) sc_l_pick.nd rfl (.inl rfl) (pe_dget (hu_of hr) (pv 0) pe_str (fun _ _ => rfl)))
      (pss_cons (ps_if (pt_cmpR op_gt (pv 3) pe_int (nomark _))
        (pss_cons (ps_dput (hu_of hr) (pv 0) pe_str (pe_op op_fdU (pv 3) (pv 1)) rfl)
          (pss_one (ps_ret (pe_op op_modU (pe_callTy call_int1 (by rfl) m_int (by decide +kernel) (pa_cons (pv 3) pa_nil)) (pv 1)))))
        pss_nil)
      (pss_cons (ps_dput (hu_of hr) (pv 0) pe_str (pe_op op_add (pe_dget (hu_of hr) (pv 0) pe_str (fun _ _ => rfl)) pe_int) rfl)
      (pss_cons (ps_set (i := 4) sc_l_pick.nd rfl (.inl rfl) (pe_dget (hu_of hr) (pv 0) pe_str (fun _ _ => rfl)))
      (pss_cons (ps_set (i := 5) sc_l_pick.nd rfl (.inl rfl) (pe_op op_modU (pe_callTy call_int1 (by rfl) m_int (by decide +kernel) (pa_cons (pe_op op_add (pe_dget (hu_of hr) (pv 0) pe_str (fun _ _ => rfl)) (pe_op op_mulU (pv 4) pe_int)) pa_nil)) pe_int))
      (pss_cons (ps_set (i := 5) sc_l_pick.nd rfl (.inl rfl) (pe_op op_modU (pe_callTy call_int1 (by rfl) m_int (by decide +kernel) (pa_cons (pe_op op_add (pe_op op_mulU (pv 5) (pv 5)) (pe_op op_mulU (pv 4) pe_int)) pa_nil)) pe_int))
      (pss_one (ps_ret (pe_op op_modU (pe_callTy call_int1 (by rfl) m_int (by decide +kernel) (pa_cons (pe_op op_fdU (pv 5) pe_int) pa_nil)) (pv 1))))))))))))), ?_⟩
    -- if most < 2
    refine ⟨_, rfl, _, _, rfl, rfl, _, rfl, ite2 (fun e => ?_) (fun e => ?_)⟩
    · exact q H 0 (.refl S) (by decide) (.inr rfl)
    have hn2 : 2 ≤ n := by
      have := of_decide_eq_false (Bool.eq_false_iff.mpr e)
      omega
    have dn : ∀ i, DivOk i n := fun i => ⟨by omega, hn⟩
    have md : ∀ i : Int, 0 ≤ i.fmod n ∧ (i.fmod n < n ∨ i.fmod n = 0) := fun i => by
      rw [fmod_pos (show 0 < n by omega)]
      exact ⟨Int.emod_nonneg i (by omega), .inl (Int.emod_lt_of_pos i (by omega))⟩
    obtain ⟨l0, m0, t0, ns0, ha0, hc0⟩ := id S
    -- digits = source['cells']
    refine ⟨_, rfl, a, .ref c, rfl, .inl ⟨_, .inr "cells", .inl ha0, rfl, src_c.symm⟩, ?_⟩
    -- while
    refine while_two (fun σ H' => σ = [some (.ref a), some (.int n), some (.ref c), none, none, none] ∧ Run a c H H' ∧ ∃ (l : Int) (ns : List Int), H' a = some (.dK (srcKV c l m0 t0)) ∧ H' c = some (.lst (ns.map V.int)))
      (fun σ H' => σ = [some (.ref a), some (.int n), some (.ref c), none, none, none] ∧ Run a c H H' ∧ ∃ (l : Int) (ns : List Int), H' a = some (.dK (srcKV c l m0 t0)) ∧ H' c = some (.lst (ns.map V.int)))
      (fun _ H' => match H' c with | some (.lst xs) => xs.length | _ => 0) ⟨rfl, .refl S, l0, ns0, ha0, hc0⟩ (fun σ H' z => ?_) (fun fin σ H' z => ?_)
    · obtain ⟨rfl, R, l, ns, ha, hc⟩ := z
      have nac : a ≠ c := S.ne
      -- left = source['left']
      refine ⟨_, rfl, a, .int l, rfl, .inl ⟨_, .inr "left", .inl ha, rfl, src_l.symm⟩, ?_⟩
      refine ⟨_, rfl, _, _, rfl, rfl, _, rfl, ite2 (fun e => ?_) (fun e => ?_)⟩
      · refine ⟨_, rfl, _, rfl, _, _, rfl, rfl, dn _, _, rfl, a, _, rfl, .inl ⟨_, .inr "left", ha, rfl, src_len, rfl⟩, ?_⟩
        rw [put_l]
        refine ⟨_, rfl, .inl ⟨_, rfl, _, rfl, _, _, rfl, rfl, .c (by omega), q _ _ ⟨⟨_, m0, t0, ns, upd_same, by rw [upd_ne nac.symm]; exact hc⟩, fun b o n1 n2 e3 => ?_⟩ (md _).1 (md _).2⟩⟩
        rw [upd_ne n1]
        exact R.keep b o n1 n2 e3
      · -- source['turn'] = source['turn'] + 1
        refine ⟨_, rfl, a, .int t0, rfl, .inl ⟨_, .inr "turn", .inl ha, rfl, src_t.symm⟩, _, _, rfl, rfl, _, rfl, a, _, rfl, .inl ⟨_, .inr "turn", ha, rfl, src_len, rfl⟩, ?_⟩
        rw [put_t]
        have ha2 : upd H' a (.dK (srcKV c l m0 (t0 + 1))) a = some (.dK (srcKV c l m0 (t0 + 1))) := upd_same
        refine ⟨_, rfl, a, .int (t0 + 1), rfl, .inl ⟨_, .inr "turn", .inl ha2, rfl, src_t.symm⟩, ?_⟩
        -- mixed
        refine ⟨_, rfl, a, .int m0, rfl, .inl ⟨_, .inr "mixed", .inl ha2, rfl, src_m.symm⟩, _, rfl, _, _, rfl, rfl, .r (by decide) (by decide), _, _, rfl, rfl, .inl ⟨_, rfl, _, _, rfl, rfl, .c (by decide), ?_⟩⟩
        generalize eM : (m0 + (t0 + 1) * 104729).fmod 998244353 = M
        have hM : 0 ≤ M ∧ M < 998244353 := by
          rw [← eM, fmod_pos (by decide)]
          exact ⟨Int.emod_nonneg _ (by decide), Int.emod_lt_of_pos _ (by decide)⟩
        refine ⟨_, rfl, _, rfl, _, _, rfl, rfl, .l (by omega) (by omega), _, rfl, _, _, rfl, rfl, .r (by decide) (by decide), _, _, rfl, rfl, .inl ⟨_, rfl, _, _, rfl, rfl, .c (by decide), ?_⟩⟩
        refine ⟨_, rfl, _, _, rfl, rfl, .s (by decide) (by decide) (by decide), .inl ⟨_, rfl, _, rfl, _, _, rfl, rfl, .c (by omega), q _ _ ⟨⟨l, m0, t0 + 1, ns, upd_same, by rw [upd_ne nac.symm]; exact hc⟩, fun b o n1 n2 e3 => ?_⟩ (md _).1 (md _).2⟩⟩
        rw [upd_ne n1]
        exact R.keep b o n1 n2 e3
    obtain ⟨rfl, R, l, ns, ha, hc⟩ := z
    refine ⟨_, rfl, a, .int l, rfl, .inl ⟨_, .inr "left", .inl ha, rfl, src_l.symm⟩, _, _, rfl, rfl, _, rfl, ite2 (fun e => ?_) (fun e => ?_)⟩
    · -- and len(digits) > 0
      refine ⟨_, rfl, c, _, rfl, .inl (.inl (.inl hc)), _, _, rfl, rfl, _, rfl, ite2 (fun e2 => ?_) (fun e2 => ?_)⟩
      · have pos : 0 < ns.length := by
          have := of_decide_eq_true e2
          rw [List.length_map] at this
          omega
        refine while_next ?_
        have gl : ns[ns.length - 1]? = some ns[ns.length - 1] := List.getElem?_eq_getElem (by omega)
        refine ⟨_, rfl, .inl ⟨rfl, _, .inl (.inl hc)⟩, c, ns.map V.int, .int ns[ns.length - 1], rfl, rfl, hc, by rw [List.length_map, List.getElem?_map, gl]; rfl, ?_⟩
        have nac : a ≠ c := S.ne
        refine ⟨_, rfl, a, _, rfl, .inl ⟨_, .inr "left", by rw [upd_ne nac]; exact ha, rfl, src_len, rfl⟩, ?_⟩
        rw [put_l]
        have h1 : upd (upd H' c (.lst (ns.map V.int).dropLast)) a (.dK (srcKV c ns[ns.length - 1] m0 t0)) c = some (.lst (ns.dropLast.map V.int)) := by
          rw [upd_ne nac.symm, upd_same, List.map_dropLast]
        refine ⟨⟨rfl, ⟨⟨ns[ns.length - 1], m0, t0, ns.dropLast, upd_same, h1⟩, fun b o n1 n2 e3 => ?_⟩, ns[ns.length - 1], ns.dropLast, upd_same, h1⟩, ?_⟩
        · rw [upd_ne n1, upd_ne n2]
          exact R.keep b o n1 n2 e3
        · simp only [h1, hc]
          rw [List.length_map, List.length_map, List.length_dropLast]
          omega
      · exact fin _ _ ⟨rfl, R, l, ns, ha, hc⟩
    · exact fin _ _ ⟨rfl, R, l, ns, ha, hc⟩
theorem ok_l_common (B : Bi K mg) (DF : Df K mg "_law_common" s_l_common ["_law_a", "_law_b"]) :
    Cal P w K mg base 1 "_law_common" ["_law_a", "_law_b"] spCommon := by
  have m_abs := B.b_abs
  refine cal_of DF fun f fd F => FnG.of_fun F sc_l_common (fun vs H Q E h => ?_) (fun cdv A outer s H vs Q E gd hr h => ?_)
  · obtain ⟨x, y, rfl, q⟩ := h
    rfl
  · obtain ⟨x, y, rfl, q⟩ := h
    refine ⟨_, (pss_cons (ps_par (i := 0) (j := 1) rfl sc_l_common.nd rfl rfl (by decide) rfl rfl (pa_cons (pe_callB call_abs (by rfl) m_abs (by decide +kernel) (pa_cons (pv 0) pa_nil)) (pa_cons (pe_callB call_abs (by rfl) m_abs (by decide +kernel) (pa_cons (pv 1) pa_nil)) pa_nil)) rfl)
      (pss_cons (ps_while PassesOwn.never (pt_cmpR op_ne (pv 1) pe_int (nomark _))
        (pss_one (ps_par (i := 0) (j := 1) rfl sc_l_common.nd rfl rfl (by decide) rfl rfl (pa_cons (pv 1) (pa_cons (pe_op op_modU (pv 0) (pv 1)) pa_nil)) rfl)))
      (pss_one (ps_ret (pv 0))))), ?_⟩
    -- a, b = abs(a), abs(b)
    refine ⟨_, rfl, _, rfl, _, rfl, _, rfl, _, _, rfl, ?_⟩
    rw [abs_nat, abs_nat]
    refine while_inv (fun σ H' => H' = H ∧ ∃ a b : Nat, σ = [some (.int a), some (.int b)] ∧ Nat.gcd a b = Nat.gcd x.natAbs y.natAbs)
      (fun σ _ => match σ with | [_, some (.int b)] => b.natAbs | _ => 0) ⟨rfl, x.natAbs, y.natAbs, rfl, rfl⟩ (fun σ H' z => ?_)
    obtain ⟨rfl, a, b, rfl, hg⟩ := z
    refine ⟨_, rfl, rfl, _, rfl, ite2 (fun e => ?_) (fun e => ?_)⟩
    · have hb : 0 < b := by
        have : ¬ V.int (b : Int) = V.int 0 := fun z => by
          rw [decide_eq_true z] at e
          cases e
        have : ¬ (b : Int) = 0 := fun z => this (by rw [z])
        omega
      refine while_next ?_
      have e4 : (a : Int).fmod (b : Int) = ((a % b : Nat) : Int) := by
        rw [fmod_pos (by omega)]
        rfl
      have lt : a % b < b := Nat.mod_lt a hb
      refine ⟨_, rfl, _, rfl, _, rfl, _, _, rfl, rfl, .c (by omega), _, _, rfl, ⟨rfl, b, a % b, ?_, ?_⟩, ?_⟩
      · show [some (V.int (b : Int)), some (V.int ((a : Int).fmod (b : Int)))] = _
        rw [e4]
      · rw [← hg, Nat.gcd_comm a b, Nat.gcd_rec b a, Nat.gcd_comm]
      · show ((a : Int).fmod (b : Int)).natAbs < (b : Int).natAbs
        rw [e4]
        exact lt
    · have hb : b = 0 := by
        have e2 : (!decide (V.int (b : Int) = V.int 0)) = false := Bool.eq_false_iff.mpr e
        have e3 : V.int (b : Int) = V.int 0 := of_decide_eq_true (by simpa using e2)
        have := V.int.inj e3
        omega
      subst hb
      rw [Nat.gcd_zero_right] at hg
      refine ⟨_, rfl, ?_⟩
      rw [hg]
      exact q
theorem ok_l_fraction (B : Bi K mg) (DF : Df K mg "_law_fraction" s_l_fraction ["_law_p", "_law_q"])
    (C_l_common : Cal P w K mg base 1 "_law_common" ["_law_a", "_law_b"] spCommon) :
    Cal P w K mg base 2 "_law_fraction" ["_law_p", "_law_q"] (spD K gFraction) := by
  refine cal_of DF fun f fd Fu => FnG.dat Fu sc_l_fraction (fun ds R h => ?_) (fun cdv A outer s H E gd hr F hF ds R h => ?_)
  · obtain ⟨p, q, rfl, hq, sp, sq, h⟩ := h
    rfl
  · obtain ⟨p, q, rfl, hq, sp, sq, h⟩ := h
    refine ⟨_, (pss_cons (ps_set (i := 2) sc_l_fraction.nd rfl (.inl rfl) (pe_op op_mulX (pe_c C_l_common (hr.mono (by decide)) gd (by rfl) (pa_cons (pv 0) (pa_cons (pv 1) pa_nil))) (pe_ifExp (pt_cmpR op_gt (pv 1) pe_int (nomark _)) pe_int (pe_op op_subX pe_int pe_int))))
      (pss_one (ps_ret (pe_tup (pa_cons (pe_op op_fdU (pv 0) (pv 2)) (pa_cons (pe_op op_fdU (pv 1) (pv 2)) pa_nil)))))), ?_⟩
    dsimp only [cxOf, Cx.wish, startS, drawS, lawS, N_l_fraction, List.map, List.length, List.replicate, List.append, List.set, List.cons_append, List.nil_append]
    have d1 := sgn_div p hq sp sq
    have d2 := sgn_div q hq sp sq
    walk_at "go"
    refine ⟨fun e => ?_, fun e => ?_⟩
    · have e1 : ((Nat.gcd p.natAbs q.natAbs : Nat) : Int) * 1 = sgn p q := by
        unfold sgn
        rw [if_pos (of_decide_eq_true e), Int.mul_one]
      walk_at "go"
      rw [e1]
      walk_at "go"
      exact h
    · have e1 : ((Nat.gcd p.natAbs q.natAbs : Nat) : Int) * (0 - 1) = sgn p q := by
        unfold sgn
        rw [if_neg (of_decide_eq_false e)]
        omega
      walk_at "go"
      rw [e1]
      walk_at "go"
      exact h
theorem ok_l_below (B : Bi K mg) (DF : Df K mg "_law_below" s_l_below ["_law_s", "_law_t"]) :
    Cal P w K mg base 1 "_law_below" ["_law_s", "_law_t"] (spD K gBelowE) := by
  refine cal_of DF fun f fd Fu => FnG.dat Fu sc_l_below (fun ds R h => ?_) (fun cdv A outer s H E gd hr F hF ds R h => ?_)
  · obtain ⟨p, q, r, t, rfl, s1, s2, s3, s4, h⟩ := h
    rfl
  · obtain ⟨p, q, r, t, rfl, s1, s2, s3, s4, h⟩ := h
    refine ⟨_, (pss_one (ps_ret (pe_cmpR (op_ltX hr.units) (pe_op op_mulX (pe_ix (ix_seqK (K := K) rfl) (pv 0) pe_int (fun _ _ => rfl)) (pe_ix (ix_seqK (K := K) rfl) (pv 1) pe_int (fun _ _ => rfl))) (pe_op op_mulX (pe_ix (ix_seqK (K := K) rfl) (pv 1) pe_int (fun _ _ => rfl)) (pe_ix (ix_seqK (K := K) rfl) (pv 0) pe_int (fun _ _ => rfl))) (nomark _)))), ?_⟩
    dsimp only [cxOf, Cx.wish, startS, drawS, lawS, N_l_below, List.map, List.length, List.replicate, List.append, List.set, List.cons_append, List.nil_append]
    have m1 : MlOk p t := .w 300 300 s1 s4
    have m2 : MlOk r q := .w 300 300 s3 s2
    walk_at "go"
    exact h
theorem ok_l_choice_of (B : Bi K mg) (DF : Df K mg "_law_choice_of" s_l_choice_of ["_law_source", "_law_things"])
    (C_l_pick : Cal P w K mg base 1 "_law_pick" ["_law_source", "_law_most"] spPick) :
    Cal P w K mg base 2 "_law_choice_of" ["_law_source", "_law_things"] (spS K gChoice) := by
  have m_len := B.b_len
  refine cal_of DF fun f fd Fu => FnG.drw Fu sc_l_choice_of (fun ds R h => ?_) (fun cdv A outer s H E gd hr F ds R h => ?_)
  · obtain ⟨xs, rfl, h0, h1, h⟩ := h
    rfl
  · obtain ⟨xs, rfl, h0, h1, h⟩ := h
    refine ⟨_, (pss_one (ps_ret (pe_ix (ix_seqK (K := K) rfl) (pv 1) (pe_c C_l_pick (hr.mono (by decide)) gd (by rfl) (pa_cons (pv 0) (pa_cons (pe_callB call_len_seq (by rfl) m_len (by decide +kernel) (pa_cons (pv 1) pa_nil)) pa_nil))) (fun _ _ => rfl)))), ?_⟩
    dsimp only [cxOf, Cx.wish, startS, drawS, lawS, N_l_choice_of, List.map, List.length, List.replicate, List.append, List.set, List.cons_append, List.nil_append]
    walk_at "go"
    refine ⟨len_log h1, fun k k0 k1 => ?_⟩
    obtain ⟨r, hr, e⟩ := atI_range (xs := xs) k0 (by omega)
    exact ⟨xs, k, r, rfl, rfl, e, h r hr⟩
theorem ok_l_ordered (B : Bi K mg) (DF : Df K mg "_law_ordered" s_l_ordered ["_law_heights"])
    (C_l_below : Cal P w K mg base 1 "_law_below" ["_law_s", "_law_t"] (spD K gBelowE)) :
    Cal P w K mg base 2 "_law_ordered" ["_law_heights"] (spD K gOrdW) := by
  have m_len := B.b_len
  refine cal_of DF fun f fd Fu => FnG.dat Fu sc_l_ordered (fun ds R h => ?_) (fun cdv A outer s H E gd hr F hF ds R h => ?_)
  · obtain ⟨hs, rfl, hl, hk, h⟩ := h
    rfl
  · obtain ⟨hs, rfl, hl, hk, h⟩ := h
    refine ⟨_, (pss_cons (ps_set (i := 1) sc_l_ordered.nd rfl (.inl rfl) (pe_lst pa_nil))
      (pss_cons (ps_for PassesOwn.never rfl (pi_list (pv 0)) (pg_name (i := 2) sc_l_ordered.nd rfl (Or.inr rfl))
        (pss_one (ps_if (pt_cmpR (op_notInD (un65 hr)) (pv 2) (pv 1) (by with_unfolding_all rfl))
            (pss_cons (ps_setLc (i := 3) (own := [("_law_one", 4)]) (g := gName 4) rfl sc_l_ordered.nd rfl rfl (sw_true rfl rfl rfl (by decide +kernel)) (pi_list (pv 1)) (blkOk_by (own := [("_law_one", 4)]) (N := N_l_ordered) (sc := defScope s_l_ordered) (by decide +kernel)) (fun _ _ _ _ _ => (pg_name (i := 4) sc_l_ordered.nd rfl (Or.inl rfl))) (fun _ _ _ _ _ => pts_one (pt_val (pe_c C_l_below (hr.mono (by decide)) gd (by rfl) (pa_cons (pv 4) (pa_cons (pv 2) pa_nil))))) (fun _ _ _ _ _ => (pv 4)))
              (pss_one (ps_set (i := 1) sc_l_ordered.nd rfl (.inl rfl) (pe_op op_addX (pe_op op_addX (pv 3) (pe_lst (pa_cons (pv 2) pa_nil))) (pe_slice (sl_listK (K := K) rfl) (pv 1) (po_some (pe_callB call_len_seq (by rfl) m_len (by decide +kernel) (pa_cons (pv 3) pa_nil))) po_none)))))
            pss_nil)))
      (pss_one (ps_ret (pv 1))))), ?_⟩
    dsimp only [cxOf, Cx.wish, startS, drawS, lawS, N_l_ordered, List.map, List.length, List.replicate, List.append, List.set, List.cons_append, List.nil_append]
    walk_at "go"
    refine s_for w_list ?_
    walk_at "go"
    refine ⟨fun i δ' => ∃ (T : List Rat) (x y z : Sl), T.Pairwise (· < ·) ∧ (∀ x, x ∈ T ↔ x ∈ hs.take i) ∧ i ≤ hs.length ∧ δ' = [.dat (.list (hs.map rD)), .dat (.list (T.map rD)), x, y, z], ⟨[], .no, .no, .no, List.Pairwise.nil, fun t => Iff.rfl, Nat.zero_le _, rfl⟩, fun i u δ' hi I => ?_, fun δ' I => ?_⟩
    · obtain ⟨T, x, y, z, A, mT, li, rfl⟩ := I
      have li := (List.getElem?_eq_some_iff.mp hi).1
      rw [List.length_map] at li
      rw [List.getElem?_map] at hi
      obtain ⟨p, hp, rfl⟩ := Option.map_eq_some_iff.mp hi
      have mp : p ∈ hs := List.mem_of_getElem? hp
      have sub : ∀ t ∈ T, t ∈ hs := fun t m => List.mem_of_mem_take ((mT t).mp m)
      have lT := asc_rat_len A sub
      have bp := (hk p mp).b3
      walk_at "go"
      refine ⟨T.map rD, .inr rfl, rfl, shaped_tup lay_rD _, ?_⟩
      rw [any_rD]
      walk_at "go"
      refine ⟨fun e => ?_, fun e => ?_⟩
      · have nin : p ∉ T := by
          have e : (!decide (p ∈ T)) = true := e
          simpa using e
        obtain ⟨i1, i2⟩ := insR_ok A nin
        have lf : (T.filter fun t => decide (t < p)).length ≤ T.length := List.length_filter_le _ _
        walk_at "go"
        refine v_filter w_list (by simp) (fun v => decide (toR v < p)) id ?_
        walk_at "go"
        refine ⟨by rw [List.length_map]; omega, fun w hw => ?_, fun w hw _ => ?_, ?_⟩
        · obtain ⟨t, mt, rfl⟩ := List.mem_map.mp hw
          have bt := (hk t (sub t mt)).b3
          dsimp only [wipeS, List.set]
          walk_at "go"
          refine ⟨t.num, t.den, p.num, p.den, rfl, bt.1, bt.2, bp.1, bp.2, ?_⟩
          rw [below_iff, toR_rD]
          walk_at "go"
          rfl
        · dsimp only [wipeS, List.set]
          walk_at "go"
          rfl
        rw [List.map_id, filter_via toR_rD (fun t => decide (t < p))]
        walk_at "go"
        refine ⟨by rw [List.length_map]; show _ + 1 ≤ _; omega, ?_⟩
        walk_at "go"
        rw [cut_from, List.length_map]
        refine ⟨?_, ?_⟩
        · rw [List.length_append, List.length_drop, List.length_map, List.length_map]
          show _ + 1 + _ ≤ _
          omega
        have e2 : ((T.filter fun t => decide (t < p)).map rD ++ [rD p]) ++ (T.map rD).drop (T.filter fun t => decide (t < p)).length = (insR p T).map rD := by
          unfold insR
          rw [List.map_append, List.map_cons, List.map_drop, List.append_assoc]
          rfl
        rw [e2]
        walk_at "go"
        refine ⟨insR p T, _, _, _, i1, fun t => ?_, by omega, rfl⟩
        rw [i2, take_snoc hp, List.mem_append, List.mem_singleton, mT]
        exact or_comm
      · refine s_next ⟨T, _, _, _, A, fun t => ?_, by omega, rfl⟩
        have iT : p ∈ T := by
          have e : (!decide (p ∈ T)) = false := e
          simpa using e
        rw [take_snoc hp, List.mem_append, List.mem_singleton, mT]
        exact ⟨.inl, fun z => z.elim id fun e => by rw [e]; exact (mT p).mp iT⟩
    · obtain ⟨T, x, y, z, A, mT, li, rfl⟩ := I
      rw [List.length_map, List.take_length] at mT
      walk_at "go"
      exact h T A mT
theorem ok_l_value (B : Bi K mg) (DF : Df K mg "_law_value" s_l_value ["_law_rows", "_law_h"])
    (C_l_below : Cal P w K mg base 1 "_law_below" ["_law_s", "_law_t"] (spD K gBelowE)) :
    Cal P w K mg base 2 "_law_value" ["_law_rows", "_law_h"] (spD K gValW) := by
  have m_sum := B.b_sum
  refine cal_of DF fun f fd Fu => FnG.dat Fu sc_l_value (fun ds R h => ?_) (fun cdv A outer s H E gd hr F hF ds R h => ?_)
  · obtain ⟨rs, p, rfl, lr, kr, kp, h⟩ := h
    rfl
  · obtain ⟨rs, p, rfl, lr, kr, kp, h⟩ := h
    refine ⟨_, (pss_one (ps_ret (pe_callB (cr_sum rfl) (by rfl) m_sum (by decide +kernel) (pa_cons (pe_lc (own := [("_law_low", 2), ("_law_high", 3), ("_law_weight", 4)]) (g := gTup K 3 (gCons (gName 2) (gCons (gName 3) (gCons (gName 4) (gNil))))) rfl sc_l_value.nd (pi_list (pv 0)) (blkOk_by (own := [("_law_low", 2), ("_law_high", 3), ("_law_weight", 4)]) (N := N_l_value) (sc := defScope s_l_value) (by decide +kernel)) (fun _ _ _ _ _ => (pg_tup rfl (pgs_cons (pg_name (i := 2) sc_l_value.nd rfl (Or.inl rfl)) (pgs_cons (pg_name (i := 3) sc_l_value.nd rfl (Or.inl rfl)) (pgs_cons (pg_name (i := 4) sc_l_value.nd rfl (Or.inl rfl)) pgs_nil))))) (fun _ _ _ _ _ => pts_one ((pw_and (pt_not (pt_val (pe_c C_l_below (hr.mono (by decide)) gd (by rfl) (pa_cons (pv 1) (pa_cons (pv 2) pa_nil))))) (pw_and1 (pt_not (pt_val (pe_c C_l_below (hr.mono (by decide)) gd (by rfl) (pa_cons (pv 3) (pa_cons (pv 1) pa_nil)))))))).pt) (fun _ _ _ _ _ => (pv 4))) pa_nil)))), ?_⟩
    dsimp only [cxOf, Cx.wish, startS, drawS, lawS, N_l_value, List.map, List.length, List.replicate, List.append, List.set, List.cons_append, List.nil_append]
    have bp := kp.b3
    walk_at "go"
    refine v_filterG w_list (gw_tup (gws_cons (gw_name (by simp)) (gws_cons (gw_name (by simp)) (gws_cons (gw_name (by simp)) gws_nil)))) (fun v => !decide (p < (toRw v).lo) && !decide ((toRw v).hi < p)) (fun v => .int (toRw v).n) ?_
    walk_at "go"
    refine ⟨by rw [List.length_map]; omega, fun x hx => ?_, ?_⟩
    · obtain ⟨r, mr, rfl⟩ := List.mem_map.mp hx
      rw [toRw_rwD]
      obtain ⟨k1, k2⟩ := kr r mr
      have b1 := k1.b3
      have b2 := k2.b3
      dsimp only [wipeS, List.set, rwD]
      walk_at "go"
      refine ⟨p.num, p.den, r.lo.num, r.lo.den, rfl, bp.1, bp.2, b1.1, b1.2, ?_⟩
      rw [below_iff]
      refine ⟨_, rfl, fun e => ?_, fun e => ?_⟩
      · walk_at "go"
        refine ⟨r.hi.num, r.hi.den, p.num, p.den, rfl, b2.1, b2.2, bp.1, bp.2, ?_⟩
        rw [below_iff]
        refine ⟨_, rfl, by rw [e, Bool.true_and], fun _ => ?_⟩
        walk_at "go"
        rfl
      · exact ⟨by rw [e, Bool.false_and], fun z => by rw [e, Bool.false_and] at z; cases z⟩
    have e1 : ((rs.map rwD).filter fun v => !decide (p < (toRw v).lo) && !decide ((toRw v).hi < p)).map (fun v => PyData.int (toRw v).n) = ((rs.filter fun r => !decide (p < r.lo) && !decide (r.hi < p)).map (·.n)).map .int := by
      rw [filter_via toRw_rwD (fun r => !decide (p < r.lo) && !decide (r.hi < p)), map_via toRw_rwD (fun r => PyData.int r.n), List.map_map]
      rfl
    rw [e1]
    refine a_nil ⟨_, rfl, ?_⟩
    rw [V3_at]
    exact h
theorem ok_l_midway (B : Bi K mg) (DF : Df K mg "_law_midway" s_l_midway ["_law_s", "_law_t"])
    (C_l_fraction : Cal P w K mg base 2 "_law_fraction" ["_law_p", "_law_q"] (spD K gFraction)) :
    Cal P w K mg base 3 "_law_midway" ["_law_s", "_law_t"] (spD K gMidW) := by
  refine cal_of DF fun f fd Fu => FnG.dat Fu sc_l_midway (fun ds R h => ?_) (fun cdv A outer s H E gd hr F hF ds R h => ?_)
  · obtain ⟨s, t, rfl, ks, kt, st, h⟩ := h
    rfl
  · obtain ⟨s, t, rfl, ks, kt, st, h⟩ := h
    refine ⟨_, (pss_one (ps_ret (pe_c C_l_fraction (hr.mono (by decide)) gd (by rfl) (pa_cons (pe_op op_addX (pe_op op_mulX (pe_ix (ix_seqK (K := K) rfl) (pv 0) pe_int (fun _ _ => rfl)) (pe_ix (ix_seqK (K := K) rfl) (pv 1) pe_int (fun _ _ => rfl))) (pe_op op_mulX (pe_ix (ix_seqK (K := K) rfl) (pv 1) pe_int (fun _ _ => rfl)) (pe_ix (ix_seqK (K := K) rfl) (pv 0) pe_int (fun _ _ => rfl)))) (pa_cons (pe_op op_mulX (pe_op op_mulX pe_int (pe_ix (ix_seqK (K := K) rfl) (pv 0) pe_int (fun _ _ => rfl))) (pe_ix (ix_seqK (K := K) rfl) (pv 1) pe_int (fun _ _ => rfl))) pa_nil))))), ?_⟩
    dsimp only [cxOf, Cx.wish, startS, drawS, lawS, N_l_midway, List.map, List.length, List.replicate, List.append, List.set, List.cons_append, List.nil_append]
    have bs := ks.b3
    have bt := kt.b3
    have ds := den0 s
    have dt' := den0 t
    have s1 : s.num.natAbs < 2 ^ 100 := ks.n
    have s2 : (s.den : Int).natAbs < 2 ^ 100 := by rw [Int.natAbs_natCast]; exact ks.d
    have t1 : t.num.natAbs < 2 ^ 100 := kt.n
    have t2 : (t.den : Int).natAbs < 2 ^ 100 := by rw [Int.natAbs_natCast]; exact kt.d
    have m1 : MlOk s.num (t.den : Int) := .w 100 100 s1 t2
    have m2 : MlOk t.num (s.den : Int) := .w 100 100 t1 s2
    have m3 : MlOk 2 (s.den : Int) := .w 2 100 (by decide) s2
    have l3 : (2 * (s.den : Int)).natAbs < 2 ^ 101 := by omega
    have m4 : MlOk (2 * (s.den : Int)) (t.den : Int) := .w 101 100 l3 t2
    have q0 : 0 < 2 * (s.den : Int) * t.den := Int.mul_pos (by omega) dt'
    have a1 : (s.num * (t.den : Int) + t.num * s.den).natAbs < 2 ^ 201 := abs_add (wide_lt s1 t2) (wide_lt t1 s2)
    have a2 : (2 * (s.den : Int) * t.den).natAbs < 2 ^ 201 := wide_lt l3 t2
    obtain ⟨g, eg, ln, ld, ge⟩ := of_frac (p := s.num * (t.den : Int) + t.num * s.den) q0
    have lt := (Rat.lt_iff s t).mp st
    walk_at "go"
    refine ⟨_, _, rfl, by omega, abs_up a1, abs_up a2, ?_⟩
    rw [eg]
    walk_at "go"
    refine h g ?_ ?_ ⟨Nat.lt_of_le_of_lt ln (abs_up a1), Nat.lt_of_le_of_lt ld (abs_up a2)⟩
    · rw [(frac_lt q0 ge s).1]
      have := Int.mul_pos ds (show 0 < t.num * (s.den : Int) - s.num * t.den by omega)
      grind
    · rw [(frac_lt q0 ge t).2]
      have := Int.mul_pos dt' (show 0 < t.num * (s.den : Int) - s.num * t.den by omega)
      grind
end
theorem last_cut {ds : List PyData} : Pg.cutD ds (some (-1)) none = ds.drop (ds.length - 1) := by
  unfold Pg.cutD
  rw [HT.sIx_none]
  have e : HT.sIx ds.length 0 (some (-1)) = ds.length - 1 := by
    unfold HT.sIx
    simp
    omega
  rw [e, List.take_of_length_le (by rw [List.length_drop]; omega)]
section
variable {P : Program} {w : World} {K : PySem.W.Frag} {mg : Str → Option Value} {base : Heap}
theorem ok_l_gaps (B : Bi K mg) (DF : Df K mg "_law_gaps" s_l_gaps ["_law_heights"])
    (C_l_midway : Cal P w K mg base 3 "_law_midway" ["_law_s", "_law_t"] (spD K gMidW))
    (C_l_fraction : Cal P w K mg base 2 "_law_fraction" ["_law_p", "_law_q"] (spD K gFraction)) :
    Cal P w K mg base 4 "_law_gaps" ["_law_heights"] (spD K gGapsW) := by
  have m_zip := B.b_zip
  refine cal_of DF fun f fd Fu => FnG.dat Fu sc_l_gaps (fun ds R h => ?_) (fun cdv A outer s H E gd hr F hF ds R h => ?_)
  · obtain ⟨hs, rfl, A, hl, hk, h⟩ := h
    rfl
  · obtain ⟨hs, rfl, A, hl, hk, h⟩ := h
    refine ⟨_, (pss_cons (ps_setLc (i := 1) (own := [("_law_s", 2), ("_law_t", 3)]) (g := gTup K 2 (gCons (gName 2) (gCons (gName 3) (gNil)))) rfl sc_l_gaps.nd rfl rfl (sw_true rfl rfl rfl (by decide +kernel)) (RZ.pi_zipA (by rfl) m_zip (pa_cons (pv 0) (pa_cons (pe_slice (sl_listK (K := K) rfl) (pv 0) (po_some pe_int) po_none) pa_nil))) (blkOk_by (own := [("_law_s", 2), ("_law_t", 3)]) (N := N_l_gaps) (sc := defScope s_l_gaps) (by decide +kernel)) (fun _ _ _ _ _ => (pg_tup rfl (pgs_cons (pg_name (i := 2) sc_l_gaps.nd rfl (Or.inl rfl)) (pgs_cons (pg_name (i := 3) sc_l_gaps.nd rfl (Or.inl rfl)) pgs_nil)))) (fun _ _ _ _ _ => pts_nil) (fun _ _ _ _ _ => (pe_c C_l_midway (hr.mono (by decide)) gd (by rfl) (pa_cons (pv 2) (pa_cons (pv 3) pa_nil)))))
      (pss_one (ps_ret (pe_op op_addX (pv 1) (pe_lc (own := [("_law_h", 4)]) (g := gName 4) rfl sc_l_gaps.nd (pi_list (pe_slice (sl_listK (K := K) rfl) (pv 0) (po_some (pe_un un_neg pe_int)) po_none)) (blkOk_by (own := [("_law_h", 4)]) (N := N_l_gaps) (sc := defScope s_l_gaps) (by decide +kernel)) (fun _ _ _ _ _ => (pg_name (i := 4) sc_l_gaps.nd rfl (Or.inl rfl))) (fun _ _ _ _ _ => pts_nil) (fun _ _ _ _ _ => (pe_c C_l_fraction (hr.mono (by decide)) gd (by rfl) (pa_cons (pe_op op_addX (pe_ix (ix_seqK (K := K) rfl) (pv 4) pe_int (fun _ _ => rfl)) (pe_ix (ix_seqK (K := K) rfl) (pv 4) pe_int (fun _ _ => rfl))) (pa_cons (pe_ix (ix_seqK (K := K) rfl) (pv 4) pe_int (fun _ _ => rfl)) pa_nil))))))))), ?_⟩
    dsimp only [cxOf, Cx.wish, startS, drawS, lawS, N_l_gaps, List.map, List.length, List.replicate, List.append, List.set, List.cons_append, List.nil_append]
    walk_at "go"
    refine v_mapI w_zip (gw_tup (gws_cons (gw_name (by simp)) (gws_cons (gw_name (by simp)) gws_nil))) (fun i y => ∃ g, y = rD g ∧ (Rk 250 g ∧ ∃ a b, hs[i]? = some a ∧ hs[i + 1]? = some b ∧ a < g ∧ g < b)) ?_
    walk_at "go"
    rw [cut_one]
    refine ⟨_, _, .inl rfl, ?_⟩
    refine ⟨by rw [zipD_len, List.length_map]; omega, fun i x hx => ?_, fun ys ly hy => ?_⟩
    · have li := (List.getElem?_eq_some_iff.mp hx).1
      rw [zipD_len, List.length_drop, List.length_map] at li
      have e0 : hs[i]? = some hs[i] := List.getElem?_eq_getElem (by omega)
      have e1 : hs[i + 1]? = some hs[i + 1] := List.getElem?_eq_getElem (by omega)
      have ea : (hs.map rD)[i]? = some (rD hs[i]) := by rw [List.getElem?_map, e0]; rfl
      have eb : ((hs.map rD).drop 1)[i]? = some (rD hs[i + 1]) := by rw [List.getElem?_drop, Nat.add_comm 1 i, List.getElem?_map, e1]; rfl
      rw [zipD_get ea eb] at hx
      cases hx
      have lt : hs[i] < hs[i + 1] := List.pairwise_iff_getElem.mp A i (i + 1) _ _ (by omega)
      dsimp only [wipeS, List.set, List.replicate]
      walk_at "go"
      exact ⟨_, _, rfl, hk _ (List.getElem_mem _), hk _ (List.getElem_mem _), lt, fun g g1 g2 gk => ⟨g, rfl, gk, _, _, e0, e1, g1, g2⟩⟩
    obtain ⟨gs, rfl, hg⟩ := list_choose hy
    rw [List.length_map, zipD_len, List.length_drop, List.length_map] at ly
    walk_at "go"
    refine v_mapI w_list (gw_name (by simp)) (fun i y => ∃ g, y = rD g ∧ (Rk 250 g ∧ ∃ a, hs[hs.length - 1 + i]? = some a ∧ a < g)) ?_
    walk_at "go"
    rw [last_cut, List.length_map]
    refine ⟨by rw [List.length_drop, List.length_map]; omega, fun i x hx => ?_, fun zs lz hz => ?_⟩
    · rw [List.getElem?_drop, List.getElem?_map] at hx
      obtain ⟨a, ha, rfl⟩ := Option.map_eq_some_iff.mp hx
      have ka := hk a (List.mem_of_getElem? ha)
      have a1 : a.num.natAbs < 2 ^ 100 := ka.n
      have a2 : (a.den : Int).natAbs < 2 ^ 100 := by rw [Int.natAbs_natCast]; exact ka.d
      have da := den0 a
      have l1 : (a.num + (a.den : Int)).natAbs < 2 ^ 101 := by omega
      obtain ⟨g, eg, ln, ld, ge⟩ := of_frac (p := a.num + a.den) da
      dsimp only [wipeS, List.set, List.replicate]
      walk_at "go"
      refine ⟨a.num + a.den, a.den, rfl, by omega, abs_up l1, abs_up a2, ?_⟩
      rw [eg]
      refine ⟨g, rfl, ⟨Nat.lt_of_le_of_lt ln (abs_up l1), Nat.lt_of_le_of_lt ld (abs_up a2)⟩, a, ha, ?_⟩
      rw [(frac_lt da ge a).1]
      have := Int.mul_pos da da
      grind
    obtain ⟨gs2, rfl, hg2⟩ := list_choose hz
    rw [List.length_map, List.length_drop, List.length_map] at lz
    walk_at "go"
    refine ⟨by rw [List.length_map, List.length_map]; omega, ?_⟩
    rw [← List.map_append]
    refine h _ ⟨by rw [List.length_append]; omega, fun i a g ea eg => ?_⟩ fun g mg => ?_
    · have li := (List.getElem?_eq_some_iff.mp ea).1
      have asc : ∀ (x : Rat), x ∈ hs → a < x → ∀ b, hs[i + 1]? = some b → b ≤ x := fun x mx ax b eb => by
        obtain ⟨j, lj, ej⟩ := List.mem_iff_getElem.mp mx
        obtain ⟨_, ea2⟩ := List.getElem?_eq_some_iff.mp ea
        obtain ⟨lb, eb2⟩ := List.getElem?_eq_some_iff.mp eb
        rcases Nat.lt_trichotomy j (i + 1) with c | c | c
        · exfalso
          by_cases c2 : j = i
          · subst c2
            rw [← ej, ← ea2] at ax
            grind
          · have := List.pairwise_iff_getElem.mp A j i lj li (by omega)
            rw [ej, ea2] at this
            grind
        · subst c
          rw [← ej, ← eb2]
          grind
        · have := List.pairwise_iff_getElem.mp A (i + 1) j lb lj c
          rw [ej, eb2] at this
          grind
      by_cases c : i < gs.length
      · rw [List.getElem?_append_left c] at eg
        obtain ⟨_, a', b', ea', eb', l1, l2⟩ := hg i g eg
        rw [ea] at ea'
        cases ea'
        exact ⟨l1, fun x mx ax => by
          have := asc x mx ax b' eb'
          grind⟩
      · rw [List.getElem?_append_right (by omega)] at eg
        have lg := (List.getElem?_eq_some_iff.mp eg).1
        obtain ⟨_, a', ea', l1⟩ := hg2 _ g eg
        rw [show hs.length - 1 + (i - gs.length) = i by omega, ea] at ea'
        cases ea'
        refine ⟨l1, fun x mx ax => ?_⟩
        exfalso
        obtain ⟨j, lj, ej⟩ := List.mem_iff_getElem.mp mx
        obtain ⟨_, ea2⟩ := List.getElem?_eq_some_iff.mp ea
        by_cases c2 : j = i
        · subst c2
          rw [← ej, ← ea2] at ax
          grind
        · have := List.pairwise_iff_getElem.mp A j i lj li (by omega)
          rw [ej, ea2] at this
          grind
    · rcases List.mem_append.mp mg with m | m
      · obtain ⟨j, e⟩ := List.mem_iff_getElem?.mp m
        exact (hg j g e).1
      · obtain ⟨j, e⟩ := List.mem_iff_getElem?.mp m
        exact (hg2 j g e).1
theorem ok_l_steps (B : Bi K mg) (DF : Df K mg "_law_steps" s_l_steps ["_law_values"]) :
    Cal P w K mg base 1 "_law_steps" ["_law_values"] (spD K gStepsL) := by
  have m_tuple := B.b_tuple
  refine cal_of DF fun f fd Fu => FnG.dat Fu sc_l_steps (fun ds R h => ?_) (fun cdv A outer s H E gd hr F hF ds R h => ?_)
  · obtain ⟨s, rfl, ls, h⟩ := h
    rfl
  · obtain ⟨s, rfl, ls, h⟩ := h
    refine ⟨_, (pss_cons (ps_par (i := 1) (j := 2) rfl sc_l_steps.nd rfl rfl (by decide) rfl rfl (pa_cons (pe_lst pa_nil) (pa_cons pe_int pa_nil)) rfl)
      (pss_cons (ps_for PassesOwn.never rfl (pi_list (pv 0)) (pg_tup rfl (pgs_cons (pg_name (i := 3) sc_l_steps.nd rfl (Or.inl rfl)) (pgs_cons (pg_name (i := 4) sc_l_steps.nd rfl (Or.inl rfl)) (pgs_cons (pg_name (i := 5) sc_l_steps.nd rfl (Or.inl rfl)) pgs_nil))))
        (pss_cons (ps_if ((pw_or (pt_cmpR (op_neX hr.units) (pv 4) (pv 2) (nomark _)) (pw_or1 (pt_cmpR (op_neX hr.units) (pv 5) (pv 2) (nomark _))))).pt
            (pss_one (ps_expr (pe_bm PySem.F.plainAttrs_list PySem.F.slot_list_append PySem.F.type_list_append mt_append (pv 1) (pa_cons (pe_tup (pa_cons (pv 3) (pa_cons (pv 4) (pa_cons (pv 5) pa_nil)))) pa_nil))))
            pss_nil)
          (pss_one (ps_set (i := 2) sc_l_steps.nd rfl (.inl rfl) (pv 5)))))
      (pss_one (ps_ret (pe_callTy call_tuple_of (by rfl) m_tuple (by decide +kernel) (pa_cons (pv 1) pa_nil)))))), ?_⟩
    dsimp only [cxOf, Cx.wish, startS, drawS, lawS, N_l_steps, List.map, List.length, List.replicate, List.append, List.set, List.cons_append, List.nil_append]
    refine s_seq (s_parO1 ?_)
    walk_at "go"
    refine s_for w_list ?_
    walk_at "go"
    refine ⟨fun i δ' => ∃ (x y z : Sl), i ≤ s.length ∧ δ' = [.dat (.list (s.map entD)), .own ((inF 0 (s.take i)).map entD), .dat (.int (endE 0 (s.take i))), x, y, z], ⟨.no, .no, .no, Nat.zero_le _, rfl⟩, fun i u δ' hi I => ?_, fun δ' I => ?_⟩
    · obtain ⟨x, y, z, li, rfl⟩ := I
      have li := (List.getElem?_eq_some_iff.mp hi).1
      rw [List.length_map] at li
      rw [List.getElem?_map] at hi
      obtain ⟨e, he, rfl⟩ := Option.map_eq_some_iff.mp hi
      have tk := take_snoc he
      have q1 := inF_snoc (acc := 0) (e := e) (s := s.take i)
      have q2 := endE_snoc (acc := 0) (e := e) (s := s.take i)
      rw [← tk] at q1 q2
      have lF := inF_len (acc := 0) (s := s.take i)
      rw [List.length_take] at lF
      dsimp only [entD]
      refine g_tup rfl ?_
      walk_at "go"
      have pushed : ¬ (e.2.1 = endE 0 (s.take i) ∧ e.2.2 = endE 0 (s.take i)) → (inF 0 (s.take i)).map entD ++ [entD e] = (inF 0 (s.take (i + 1))).map entD := fun c => by
        rw [q1, if_neg c, List.map_append]
        rfl
      refine ⟨fun e1 => ?_, fun e1 => ?_⟩
      · walk_at "go"
        refine ⟨by rw [List.length_map]; omega, ?_⟩
        walk_at "go"
        refine ⟨.dat (rD e.1), .dat (.int e.2.1), .dat (.int e.2.2), by omega, ?_⟩
        rw [q2, ← pushed fun c => ine_t e1 c.1]
        rfl
      · walk_at "go"
        refine ⟨fun e2 => ?_, fun e2 => ?_⟩
        · walk_at "go"
          refine ⟨by rw [List.length_map]; omega, ?_⟩
          walk_at "go"
          refine ⟨.dat (rD e.1), .dat (.int e.2.1), .dat (.int e.2.2), by omega, ?_⟩
          rw [q2, ← pushed fun c => ine_t e2 c.2]
          rfl
        · walk_at "go"
          refine ⟨.dat (rD e.1), .dat (.int e.2.1), .dat (.int e.2.2), by omega, ?_⟩
          rw [q2, q1, if_pos ⟨ine_f e1, ine_f e2⟩, List.append_nil]
          rfl
    · obtain ⟨x, y, z, li, rfl⟩ := I
      rw [List.length_map, List.take_length]
      refine s_rel (i := 1) rfl ?_
      walk_at "go"
      exact h
theorem ok_l_steps_of (B : Bi K mg) (DF : Df K mg "_law_steps_of" s_l_steps_of ["_law_rows"])
    (C_l_ordered : Cal P w K mg base 2 "_law_ordered" ["_law_heights"] (spD K gOrdW))
    (C_l_steps : Cal P w K mg base 1 "_law_steps" ["_law_values"] (spD K gStepsL))
    (C_l_value : Cal P w K mg base 2 "_law_value" ["_law_rows", "_law_h"] (spD K gValW))
    (C_l_gaps : Cal P w K mg base 4 "_law_gaps" ["_law_heights"] (spD K gGapsW)) :
    Cal P w K mg base 5 "_law_steps_of" ["_law_rows"] (spD K gStepsOW) := by
  have m_zip := B.b_zip
  refine cal_of DF fun f fd Fu => FnG.dat Fu sc_l_steps_of (fun ds R h => ?_) (fun cdv A outer s H E gd hr F hF ds R h => ?_)
  · obtain ⟨rs, rfl, ok, lr, kr, h⟩ := h
    rfl
  · obtain ⟨rs, rfl, ok, lr, kr, h⟩ := h
    refine ⟨_, (pss_cons (ps_set (i := 1) sc_l_steps_of.nd rfl (.inl rfl) (pe_c C_l_ordered (hr.mono (by decide)) gd (by rfl) (pa_cons (pe_op op_addX (pe_lc (own := [("_law_row", 2)]) (g := gName 2) rfl sc_l_steps_of.nd (pi_list (pv 0)) (blkOk_by (own := [("_law_row", 2)]) (N := N_l_steps_of) (sc := defScope s_l_steps_of) (by decide +kernel)) (fun _ _ _ _ _ => (pg_name (i := 2) sc_l_steps_of.nd rfl (Or.inl rfl))) (fun _ _ _ _ _ => pts_nil) (fun _ _ _ _ _ => (pe_ix (ix_seqK (K := K) rfl) (pv 2) pe_int (fun _ _ => rfl)))) (pe_lc (own := [("_law_row", 2)]) (g := gName 2) rfl sc_l_steps_of.nd (pi_list (pv 0)) (blkOk_by (own := [("_law_row", 2)]) (N := N_l_steps_of) (sc := defScope s_l_steps_of) (by decide +kernel)) (fun _ _ _ _ _ => (pg_name (i := 2) sc_l_steps_of.nd rfl (Or.inl rfl))) (fun _ _ _ _ _ => pts_nil) (fun _ _ _ _ _ => (pe_ix (ix_seqK (K := K) rfl) (pv 2) pe_int (fun _ _ => rfl))))) pa_nil)))
      (pss_one (ps_ret (pe_c C_l_steps (hr.mono (by decide)) gd (by rfl) (pa_cons (pe_lc (own := [("_law_h", 3), ("_law_gap", 4)]) (g := gTup K 2 (gCons (gName 3) (gCons (gName 4) (gNil)))) rfl sc_l_steps_of.nd (RZ.pi_zipA (by rfl) m_zip (pa_cons (pv 1) (pa_cons (pe_c C_l_gaps (hr.mono (by decide)) gd (by rfl) (pa_cons (pv 1) pa_nil)) pa_nil))) (blkOk_by (own := [("_law_h", 3), ("_law_gap", 4)]) (N := N_l_steps_of) (sc := defScope s_l_steps_of) (by decide +kernel)) (fun _ _ _ _ _ => (pg_tup rfl (pgs_cons (pg_name (i := 3) sc_l_steps_of.nd rfl (Or.inl rfl)) (pgs_cons (pg_name (i := 4) sc_l_steps_of.nd rfl (Or.inl rfl)) pgs_nil)))) (fun _ _ _ _ _ => pts_nil) (fun _ _ _ _ _ => (pe_tup (pa_cons (pv 3) (pa_cons (pe_c C_l_value (hr.mono (by decide)) gd (by rfl) (pa_cons (pv 0) (pa_cons (pv 3) pa_nil))) (pa_cons (pe_c C_l_value (hr.mono (by decide)) gd (by rfl) (pa_cons (pv 0) (pa_cons (pv 4) pa_nil))) pa_nil)))))) pa_nil))))), ?_⟩
    dsimp only [cxOf, Cx.wish, startS, drawS, lawS, N_l_steps_of, List.map, List.length, List.replicate, List.append, List.set, List.cons_append, List.nil_append]
    walk_at "go"
    refine v_map w_list (by simp) (fun v => rD (toRw v).lo) ?_
    walk_at "go"
    refine ⟨by rw [List.length_map]; omega, fun x hx => ?_, ?_⟩
    · obtain ⟨r, mr, rfl⟩ := List.mem_map.mp hx
      rw [toRw_rwD]
      dsimp only [wipeS, List.set, rwD, List.replicate]
      walk_at "go"
      rfl
    rw [map_via toRw_rwD (fun r => rD r.lo)]
    refine v_map w_list (by simp) (fun v => rD (toRw v).hi) ?_
    walk_at "go"
    refine ⟨by rw [List.length_map]; omega, fun x hx => ?_, ?_⟩
    · obtain ⟨r, mr, rfl⟩ := List.mem_map.mp hx
      rw [toRw_rwD]
      dsimp only [wipeS, List.set, rwD, List.replicate]
      walk_at "go"
      rfl
    rw [map_via toRw_rwD (fun r => rD r.hi)]
    walk_at "go"
    refine ⟨by rw [List.length_map, List.length_map]; omega, ?_⟩
    have ea : rs.map (fun r => rD r.lo) ++ rs.map (fun r => rD r.hi) = (rs.map (·.lo) ++ rs.map (·.hi)).map rD := by
      rw [List.map_append, List.map_map, List.map_map]
      rfl
    rw [ea]
    have kk : ∀ x ∈ rs.map (·.lo) ++ rs.map (·.hi), Rk 100 x := fun x mx => by
      rcases List.mem_append.mp mx with m | m
      · obtain ⟨r, mr, rfl⟩ := List.mem_map.mp m
        exact (kr r mr).1
      · obtain ⟨r, mr, rfl⟩ := List.mem_map.mp m
        exact (kr r mr).2
    refine a_nil ⟨_, rfl, by rw [List.length_append, List.length_map, List.length_map]; omega, fun x mx => (kk x mx).up (by decide), fun T A mT => ?_⟩
    have kT : ∀ x ∈ T, Rk 100 x := fun x m => kk x ((mT x).mp m)
    have E : Ends rs T := ⟨A, fun x => by
      rw [mT, List.mem_append, List.mem_map, List.mem_map]
      constructor
      · rintro (⟨r, m, e⟩ | ⟨r, m, e⟩)
        · exact ⟨r, m, .inl e.symm⟩
        · exact ⟨r, m, .inr e.symm⟩
      · rintro ⟨r, m, e | e⟩
        · exact .inl ⟨r, m, e.symm⟩
        · exact .inr ⟨r, m, e.symm⟩⟩
    have lT : T.length ≤ 2 * rs.length := by
      have := asc_rat_len A fun t m => (mT t).mp m
      rw [List.length_append, List.length_map, List.length_map] at this
      omega
    have kr250 : RowsK 250 rs := fun r m => ⟨(kr r m).1.up (by decide), (kr r m).2.up (by decide)⟩
    walk_at "go"
    refine v_mapG w_zip (gw_tup (gws_cons (gw_name (by simp)) (gws_cons (gw_name (by simp)) gws_nil))) (fun v => match v with | .tuple [x, _] => entD (ent (V3 rs) (toR x)) | _ => .none) ?_
    walk_at "go"
    refine ⟨T, rfl, A, by omega, kT, fun gs G kg => ?_⟩
    refine a_nil ⟨_, _, .inl rfl, ?_⟩
    refine ⟨by rw [zipD_len, List.length_map]; omega, fun x hx => ?_, ?_⟩
    · obtain ⟨i, hi⟩ := List.mem_iff_getElem?.mp hx
      have li := (List.getElem?_eq_some_iff.mp hi).1
      rw [zipD_len, List.length_map, List.length_map, G.len] at li
      have e0 : T[i]? = some T[i] := List.getElem?_eq_getElem (by omega)
      have e1 : gs[i]? = some (gs[i]'(by rw [G.len]; omega)) := List.getElem?_eq_getElem (by rw [G.len]; omega)
      have m0 := List.mem_of_getElem? e0
      have m1 := List.mem_of_getElem? e1
      rw [zipD_get (by rw [List.getElem?_map, e0]; rfl) (by rw [List.getElem?_map, e1]; rfl)] at hi
      cases hi
      have gv := gap_val ok E G e0 e1
      generalize T[i] = a at *
      generalize gs[i]'_ = b at *
      dsimp only [wipeS, List.set, List.replicate]
      walk_at "go"
      refine ⟨rs, a, rfl, by omega, kr250, (kT a m0).up (by decide), ?_⟩
      walk_at "go"
      refine ⟨rs, b, rfl, by omega, kr250, kg b m1, ?_⟩
      walk_at "go"
      rw [gv, toR_rD]
      rfl
    have em : (zipD (T.map rD) (gs.map rD)).map (fun v => match v with | .tuple [x, _] => entD (ent (V3 rs) (toR x)) | _ => .none) = (T.map (ent (V3 rs))).map entD := by
      have : ∀ (T gs : List Rat), gs.length = T.length → (zipD (T.map rD) (gs.map rD)).map (fun v => match v with | .tuple [x, _] => entD (ent (V3 rs) (toR x)) | _ => PyData.none) = (T.map (ent (V3 rs))).map entD := by
        intro T
        induction T with
        | nil => intro gs _; rfl
        | cons a r ih =>
          intro gs l
          cases gs with
          | nil => cases l
          | cons b q =>
            show entD (ent (V3 rs) (toR (rD a))) :: _ = entD (ent (V3 rs) a) :: _
            rw [toR_rD]
            congr 1
            exact ih q (by simpa using l)
      exact this T gs G.len
    rw [em]
    refine a_nil ⟨_, rfl, by rw [List.length_map]; omega, ?_⟩
    have sub : ∀ e ∈ inF 0 (T.map (ent (V3 rs))), ∃ x ∈ T, e = ent (V3 rs) x := fun e m => by
      obtain ⟨x, mx, rfl⟩ := List.mem_map.mp (inF_sub e m)
      exact ⟨x, mx, rfl⟩
    refine h _ ⟨tells_rows ok E, ?_, fun e m => ?_, fun e m => ?_⟩
    · have := inF_len (acc := 0) (s := T.map (ent (V3 rs)))
      rw [List.length_map] at this
      omega
    · obtain ⟨x, mx, rfl⟩ := sub e m
      exact (E.mem x).mp mx
    · obtain ⟨x, mx, rfl⟩ := sub e m
      rfl
end
theorem cop1 (m : Nat) : Nat.gcd m (m + 1) = 1 := by simp
theorem p9 : (10 : Int) ^ Int.toNat 9 = 1000000000 := by decide
section
variable {P : Program} {w : World} {K : PySem.W.Frag} {mg : Str → Option Value} {base : Heap}
theorem ok_l_draw_stretches (B : Bi K mg) (DF : Df K mg "_law_draw_stretches" s_l_draw_stretches ["_law_source", "_law_most"])
    (C_l_pick : Cal P w K mg base 1 "_law_pick" ["_law_source", "_law_most"] spPick)
    (C_l_fraction : Cal P w K mg base 2 "_law_fraction" ["_law_p", "_law_q"] (spD K gFraction))
    (C_l_choice_of : Cal P w K mg base 2 "_law_choice_of" ["_law_source", "_law_things"] (spS K gChoice))
    (C_l_below : Cal P w K mg base 1 "_law_below" ["_law_s", "_law_t"] (spD K gBelowE)) :
    Cal P w K mg base 3 "_law_draw_stretches" ["_law_source", "_law_most"] (spS K gDrawStr) := by
  have m_range := B.b_range
  refine cal_of DF fun f fd Fu => FnG.drw Fu sc_l_draw_stretches (fun ds R h => ?_) (fun cdv A outer s H E gd hr F ds R h => ?_)
  · obtain ⟨n, rfl, ln, h⟩ := h
    rfl
  · obtain ⟨n, rfl, ln, h⟩ := h
    refine ⟨_, (pss_cons (ps_par (i := 3) (j := 4) rfl sc_l_draw_stretches.nd rfl rfl (by decide) rfl rfl (pa_cons (pe_lst pa_nil) (pa_cons (pe_lc (own := [("_law_lap", 2)]) (g := gName 2) rfl sc_l_draw_stretches.nd (pi_range1 (by rfl) m_range (pa_cons pe_int pa_nil)) (blkOk_by (own := [("_law_lap", 2)]) (N := N_l_draw_stretches) (sc := defScope s_l_draw_stretches) (by decide +kernel)) (fun _ _ _ _ _ => (pg_name (i := 2) sc_l_draw_stretches.nd rfl (Or.inl rfl))) (fun _ _ _ _ _ => pts_nil) (fun _ _ _ _ _ => (pe_c C_l_fraction (hr.mono (by decide)) gd (by rfl) (pa_cons (pe_op op_subX (pe_c C_l_pick (hr.mono (by decide)) gd (by rfl) (pa_cons (pv 0) (pa_cons pe_int pa_nil))) pe_int) (pa_cons (pe_op op_addX pe_int (pe_c C_l_pick (hr.mono (by decide)) gd (by rfl) (pa_cons (pv 0) (pa_cons pe_int pa_nil)))) pa_nil))))) pa_nil)) rfl)
      (pss_cons (ps_if (pt_cmpR (op_eqX hr.units) (pe_c C_l_pick (hr.mono (by decide)) gd (by rfl) (pa_cons (pv 0) (pa_cons pe_int pa_nil))) pe_int (nomark _))
        (pss_cons (ps_set (i := 5) sc_l_draw_stretches.nd rfl (.inl rfl) (pe_op op_subX (pe_op op_subX (pe_op op_pow pe_int pe_int) pe_int) (pe_c C_l_pick (hr.mono (by decide)) gd (by rfl) (pa_cons (pv 0) (pa_cons pe_int pa_nil)))))
          (pss_one (ps_set (i := 4) sc_l_draw_stretches.nd rfl (.inl rfl) (pe_lst (pa_cons (pe_tup (pa_cons pe_int (pa_cons (pv 5) pa_nil))) (pa_cons (pe_tup (pa_cons pe_int (pa_cons (pe_op op_addX (pv 5) pe_int) pa_nil))) (pa_cons (pe_tup (pa_cons (pe_op op_subX (pv 5) pe_int) (pa_cons (pv 5) pa_nil))) (pa_cons (pe_tup (pa_cons (pv 5) (pa_cons (pe_op op_addX (pv 5) pe_int) pa_nil))) pa_nil))))))))
        pss_nil)
      (pss_cons (ps_for PassesOwn.never rfl (pi_range1 (by rfl) m_range (pa_cons (pe_c C_l_pick (hr.mono (by decide)) gd (by rfl) (pa_cons (pv 0) (pa_cons (pe_op op_addX (pv 1) pe_int) pa_nil))) pa_nil)) (pg_name (i := 2) sc_l_draw_stretches.nd rfl (Or.inl rfl))
        (pss_cons (ps_par (i := 6) (j := 7) rfl sc_l_draw_stretches.nd rfl rfl (by decide) rfl rfl (pa_cons (pe_c C_l_choice_of (hr.mono (by decide)) gd (by rfl) (pa_cons (pv 0) (pa_cons (pv 4) pa_nil))) (pa_cons (pe_c C_l_choice_of (hr.mono (by decide)) gd (by rfl) (pa_cons (pv 0) (pa_cons (pv 4) pa_nil))) pa_nil)) rfl)
          (pss_cons (ps_asg (pe_ifExp (pt_val (pe_c C_l_below (hr.mono (by decide)) gd (by rfl) (pa_cons (pv 7) (pa_cons (pv 6) pa_nil)))) (pe_tup (pa_cons (pv 7) (pa_cons (pv 6) pa_nil))) (pe_tup (pa_cons (pv 6) (pa_cons (pv 7) pa_nil)))) (pg_tup rfl (pgs_cons (pg_name (i := 8) sc_l_draw_stretches.nd rfl (Or.inl rfl)) (pgs_cons (pg_name (i := 9) sc_l_draw_stretches.nd rfl (Or.inl rfl)) pgs_nil))))
          (pss_one (ps_expr (pe_bm PySem.F.plainAttrs_list PySem.F.slot_list_append PySem.F.type_list_append mt_append (pv 3) (pa_cons (pe_tup (pa_cons (pv 8) (pa_cons (pv 9) (pa_cons (pe_ix (ix_seqK (K := K) rfl) (pe_lst (pa_cons pe_int (pa_cons (pe_un un_neg pe_int) (pa_cons pe_int (pa_cons (pe_un un_neg pe_int) (pa_cons pe_int (pa_cons pe_int pa_nil))))))) (pe_c C_l_pick (hr.mono (by decide)) gd (by rfl) (pa_cons (pv 0) (pa_cons pe_int pa_nil))) (fun _ _ => rfl)) pa_nil)))) pa_nil)))))))
      (pss_one (ps_ret (pv 3)))))), ?_⟩
    dsimp only [cxOf, Cx.wish, startS, drawS, lawS, N_l_draw_stretches, List.map, List.length, List.replicate, List.append, List.set, List.cons_append, List.nil_append]
    refine s_seq (s_parO1 ?_)
    walk_at "go"
    refine v_mapI w_range1 (gw_name (by simp)) (fun _ y => ∃ g, y = rD g ∧ Rk 31 g) ?_
    walk_at "go"
    refine ⟨by decide, by decide, by rw [rangeD_len]; decide, fun i x hx => ?_, fun ys ly hy => ?_⟩
    · dsimp only [wipeS, List.set, List.replicate]
      walk_at "go"
      refine fun a a0 a1 => ?_
      walk_at "go"
      refine fun b b0 b1 => ?_
      walk_at "go"
      obtain ⟨g, eg, ln, ld, _⟩ := of_frac (p := a - 6) (q := 1 + b) (by omega)
      refine ⟨a - 6, 1 + b, rfl, by omega, abs_up (a := 31) (by omega), abs_up (a := 31) (by omega), ?_⟩
      rw [eg]
      exact ⟨g, rfl, by omega, by omega⟩
    obtain ⟨E0, rfl, hE0⟩ := list_choose hy
    rw [List.length_map, rangeD_len] at ly
    have ly : E0.length = 4 := ly
    have hE0 : ∀ e ∈ E0, Rk 31 e := fun e m => by
      obtain ⟨j, ej⟩ := List.mem_iff_getElem?.mp m
      exact hE0 j e ej
    dsimp only [List.set, List.replicate]
    refine s_seq (SV.toN (N := fun δ' => ∃ (E : List Rat) (y : Sl), E.length = 4 ∧ (∀ e ∈ E, Rk 31 e) ∧ δ' = [.src, .dat (.int n), .no, .own [], .dat (.list (E.map rD)), y, .no, .no, .no, .no]) ?_ ?_)
    · walk_at "go"
      refine fun c c0 c1 => ?_
      walk_at "go"
      refine ⟨fun _ => ?_, fun _ => ?_⟩
      · walk_at "go"
        rw [p9]
        refine fun k k0 k1 => ?_
        walk_at "go"
        obtain ⟨m, hm⟩ := Int.eq_ofNat_of_zero_le (show 0 ≤ 1000000000 - 2 - k - 1 by omega)
        have em : (1000000000 - 2 - k : Int) = ((m + 1 : Nat) : Int) := by omega
        rw [em]
        have lm : m < 1000000000 := by omega
        have n1 : (((m + 1 : Nat) : Int)).natAbs = m + 1 := Int.natAbs_natCast _
        have n2 : (((m + 1 : Nat) : Int) + 1).natAbs = m + 2 := by omega
        have n3 : (((m + 1 : Nat) : Int) - 1).natAbs = m := by omega
        obtain ⟨g1, e1, k1⟩ := mk_rD (a := 1) (b := ((m + 1 : Nat) : Int)) (by omega) (by rw [n1]; exact Nat.gcd_one_left _) 31 (by decide) (by omega)
        obtain ⟨g2, e2, k2⟩ := mk_rD (a := 1) (b := ((m + 1 : Nat) : Int) + 1) (by omega) (by rw [n2]; exact Nat.gcd_one_left _) 31 (by decide) (by omega)
        obtain ⟨g3, e3, k3⟩ := mk_rD (a := ((m + 1 : Nat) : Int) - 1) (b := ((m + 1 : Nat) : Int)) (by omega) (by rw [n1, n3]; exact cop1 m) 31 (by omega) (by omega)
        obtain ⟨g4, e4, k4⟩ := mk_rD (a := ((m + 1 : Nat) : Int)) (b := ((m + 1 : Nat) : Int) + 1) (by omega) (by rw [n1, n2]; exact cop1 (m + 1)) 31 (by omega) (by omega)
        refine ⟨[g1, g2, g3, g4], Sl.dat (PyData.int ((m + 1 : Nat) : Int)), rfl, fun e me => ?_, ?_⟩
        · simp only [List.mem_cons, List.not_mem_nil, or_false] at me
          rcases me with e | e | e | e <;> rw [e] <;> assumption
        · show _ = [_, _, _, _, Sl.dat (PyData.list [rD g1, rD g2, rD g3, rD g4]), _, _, _, _, _]
          rw [← e1, ← e2, ← e3, ← e4]
          rfl
      · walk_at "go"
        exact ⟨E0, Sl.no, ly, hE0, rfl⟩
    rintro _ ⟨E, y, lE, hE, rfl⟩
    walk_at "go"
    refine s_for w_range1 ?_
    walk_at "go"
    have lg : (((n : Nat) : Int) + 1).natAbs.log2 < 9000 := Nat.lt_trans (PySem.Flt.log2_lt_of (k := 31) (by decide) (by omega)) (by decide)
    refine ⟨lg, fun k k0 k1 => ?_⟩
    walk_at "go"
    refine ⟨by omega, by omega, fun i δ' => ∃ (rs : List Rw) (x a b c d : Sl), RowsOk rs ∧ RowsK 31 rs ∧ (∀ r ∈ rs, r.n.natAbs ≤ 3) ∧ rs.length = i ∧ i ≤ k.toNat ∧ δ' = [.src, .dat (.int n), x, .own (rs.map rwD), .dat (.list (E.map rD)), y, a, b, c, d], ⟨[], .no, .no, .no, .no, .no, fun r m => (by cases m), fun r m => (by cases m), fun r m => (by cases m), rfl, Nat.zero_le _, rfl⟩, fun i u δ' hi I => ?_, fun δ' I => ?_⟩
    · obtain ⟨rs, x, a, b, c, d, ok, kr, nr, li, lk, rfl⟩ := I
      have lt' := (List.getElem?_eq_some_iff.mp hi).1
      rw [rangeD_len] at lt'
      walk_at "go"
      refine ⟨E.map rD, rfl, by rw [List.length_map]; omega, by rw [List.length_map]; omega, fun d1 m1 => ?_⟩
      obtain ⟨p, mp, rfl⟩ := List.mem_map.mp m1
      walk_at "go"
      refine ⟨E.map rD, rfl, by rw [List.length_map]; omega, by rw [List.length_map]; omega, fun d2 m2 => ?_⟩
      obtain ⟨q, mq, rfl⟩ := List.mem_map.mp m2
      have kp := hE p mp
      have kq := hE q mq
      have bp := kp.b3
      have bq := kq.b3
      refine a_nil ⟨_, _, rfl, ?_⟩
      dsimp only [List.set]
      refine s_seq (s_asg (EV.mono (P := fun d => ∃ lo hi : Rat, d = .tuple [rD lo, rD hi] ∧ lo ≤ hi ∧ Rk 31 lo ∧ Rk 31 hi) ?_ ?_))
      · walk_at "go"
        refine ⟨q.num, q.den, p.num, p.den, rfl, bq.1, bq.2, bp.1, bp.2, ?_⟩
        rw [below_iff]
        refine ⟨_, rfl, fun e => ?_, fun e => ?_⟩
        · have e := of_decide_eq_true e
          walk_at "go"
          exact ⟨by grind, kq, kp⟩
        · have e := of_decide_eq_false e
          walk_at "go"
          exact ⟨by grind, kp, kq⟩
      rintro _ ⟨lo, hi, rfl, le, klo, khi⟩
      refine g_tup rfl ?_
      walk_at "go"
      refine fun j j0 j1 => ?_
      obtain ⟨r, hr, er⟩ := atI_range (xs := [PyData.int 1, .int (-1), .int 2, .int (-3), .int 1, .int 0]) j0 (by show j < 6; omega)
      obtain ⟨w, rfl, lw⟩ : ∃ w : Int, r = .int w ∧ w.natAbs ≤ 3 := by
        simp only [List.mem_cons, List.not_mem_nil, or_false] at hr
        rcases hr with rfl | rfl | rfl | rfl | rfl | rfl <;> exact ⟨_, rfl, by decide⟩
      refine ⟨_, j, .int w, rfl, rfl, er, ?_⟩
      walk_at "go"
      refine ⟨by rw [List.length_map]; omega, ?_⟩
      refine ⟨rs ++ [⟨lo, hi, w⟩], .dat u, .dat (rD p), .dat (rD q), .dat (rD lo), .dat (rD hi), fun r m => ?_, fun r m => ?_, fun r m => ?_, by rw [List.length_append, li]; rfl, by omega, by rw [List.map_append]; rfl⟩
      · rcases List.mem_append.mp m with m | m
        · exact ok r m
        · rw [List.mem_singleton.mp m]; exact le
      · rcases List.mem_append.mp m with m | m
        · exact kr r m
        · rw [List.mem_singleton.mp m]; exact ⟨klo, khi⟩
      · rcases List.mem_append.mp m with m | m
        · exact nr r m
        · rw [List.mem_singleton.mp m]; exact lw
    · obtain ⟨rs, x, a, b, c, d, ok, kr, nr, li, lk, rfl⟩ := I
      refine s_rel (i := 3) rfl ?_
      walk_at "go"
      exact h rs ⟨ok, by omega, kr, nr⟩
theorem ok_l_plus (B : Bi K mg) (DF : Df K mg "_law_plus" s_l_plus ["_law_s", "_law_t"])
    (C_l_fraction : Cal P w K mg base 2 "_law_fraction" ["_law_p", "_law_q"] (spD K gFraction)) :
    Cal P w K mg base 3 "_law_plus" ["_law_s", "_law_t"] (spD K gPlusL) := by
  refine cal_of DF fun f fd Fu => FnG.dat Fu sc_l_plus (fun ds R h => ?_) (fun cdv A outer s H E gd hr F hF ds R h => ?_)
  · obtain ⟨a, b, rfl, ka, kb, h⟩ := h
    rfl
  · obtain ⟨a, b, rfl, ka, kb, h⟩ := h
    refine ⟨_, (pss_one (ps_ret (pe_c C_l_fraction (hr.mono (by decide)) gd (by rfl) (pa_cons (pe_op op_addX (pe_op op_mulX (pe_ix (ix_seqK (K := K) rfl) (pv 0) pe_int (fun _ _ => rfl)) (pe_ix (ix_seqK (K := K) rfl) (pv 1) pe_int (fun _ _ => rfl))) (pe_op op_mulX (pe_ix (ix_seqK (K := K) rfl) (pv 1) pe_int (fun _ _ => rfl)) (pe_ix (ix_seqK (K := K) rfl) (pv 0) pe_int (fun _ _ => rfl)))) (pa_cons (pe_op op_mulX (pe_ix (ix_seqK (K := K) rfl) (pv 0) pe_int (fun _ _ => rfl)) (pe_ix (ix_seqK (K := K) rfl) (pv 1) pe_int (fun _ _ => rfl))) pa_nil))))), ?_⟩
    dsimp only [cxOf, Cx.wish, startS, drawS, lawS, N_l_plus, List.map, List.length, List.replicate, List.append, List.set, List.cons_append, List.nil_append]
    have s1 : a.num.natAbs < 2 ^ 100 := ka.n
    have s2 : (a.den : Int).natAbs < 2 ^ 100 := by rw [Int.natAbs_natCast]; exact ka.d
    have t1 : b.num.natAbs < 2 ^ 100 := kb.n
    have t2 : (b.den : Int).natAbs < 2 ^ 100 := by rw [Int.natAbs_natCast]; exact kb.d
    have m1 : MlOk a.num (b.den : Int) := .w 100 100 s1 t2
    have m2 : MlOk b.num (a.den : Int) := .w 100 100 t1 s2
    have m3 : MlOk (a.den : Int) (b.den : Int) := .w 100 100 s2 t2
    have q0 : 0 < (a.den : Int) * b.den := Int.mul_pos (den0 a) (den0 b)
    have a1 : (a.num * (b.den : Int) + b.num * a.den).natAbs < 2 ^ 201 := abs_add (wide_lt s1 t2) (wide_lt t1 s2)
    have a2 : ((a.den : Int) * b.den).natAbs < 2 ^ 200 := wide_lt s2 t2
    walk_at "go"
    refine ⟨_, _, rfl, by omega, abs_up a1, abs_up a2, ?_⟩
    rw [frac_add]
    exact h
theorem ok_l_shifted (B : Bi K mg) (DF : Df K mg "_law_shifted" s_l_shifted ["_law_rows", "_law_h"])
    (C_l_plus : Cal P w K mg base 3 "_law_plus" ["_law_s", "_law_t"] (spD K gPlusL)) :
    Cal P w K mg base 4 "_law_shifted" ["_law_rows", "_law_h"] (spD K gShiftL) := by
  refine cal_of DF fun f fd Fu => FnG.dat Fu sc_l_shifted (fun ds R h => ?_) (fun cdv A outer s H E gd hr F hF ds R h => ?_)
  · obtain ⟨rs, q, rfl, ls, kr, kq, h⟩ := h
    rfl
  · obtain ⟨rs, q, rfl, ls, kr, kq, h⟩ := h
    refine ⟨_, (pss_one (ps_ret (pe_lc (own := [("_law_low", 2), ("_law_high", 3), ("_law_weight", 4)]) (g := gTup K 3 (gCons (gName 2) (gCons (gName 3) (gCons (gName 4) (gNil))))) rfl sc_l_shifted.nd (pi_list (pv 0)) (blkOk_by (own := [("_law_low", 2), ("_law_high", 3), ("_law_weight", 4)]) (N := N_l_shifted) (sc := defScope s_l_shifted) (by decide +kernel)) (fun _ _ _ _ _ => (pg_tup rfl (pgs_cons (pg_name (i := 2) sc_l_shifted.nd rfl (Or.inl rfl)) (pgs_cons (pg_name (i := 3) sc_l_shifted.nd rfl (Or.inl rfl)) (pgs_cons (pg_name (i := 4) sc_l_shifted.nd rfl (Or.inl rfl)) pgs_nil))))) (fun _ _ _ _ _ => pts_nil) (fun _ _ _ _ _ => (pe_tup (pa_cons (pe_c C_l_plus (hr.mono (by decide)) gd (by rfl) (pa_cons (pv 2) (pa_cons (pv 1) pa_nil))) (pa_cons (pe_c C_l_plus (hr.mono (by decide)) gd (by rfl) (pa_cons (pv 3) (pa_cons (pv 1) pa_nil))) (pa_cons (pv 4) pa_nil)))))))), ?_⟩
    dsimp only [cxOf, Cx.wish, startS, drawS, lawS, N_l_shifted, List.map, List.length, List.replicate, List.append, List.set, List.cons_append, List.nil_append]
    walk_at "go"
    refine v_mapR w_list (gw_tup (gws_cons (gw_name (by simp)) (gws_cons (gw_name (by simp)) (gws_cons (gw_name (by simp)) gws_nil)))) rs rwD rwD (fun x y => y = shR q x) ?_
    walk_at "go"
    refine ⟨rfl, by omega, fun r mr => ?_, fun M hM => ?_⟩
    · dsimp only [wipeS, List.set, rwD, List.replicate]
      walk_at "go"
      refine ⟨r.lo, q, rfl, (kr r mr).1, kq, ?_⟩
      walk_at "go"
      refine ⟨r.hi, q, rfl, (kr r mr).2, kq, ?_⟩
      walk_at "go"
      exact ⟨_, rfl, rfl⟩
    have eM := hM.toFn
    subst eM
    exact h
theorem ok_l_moved (B : Bi K mg) (DF : Df K mg "_law_moved" s_l_moved ["_law_rows", "_law_others"])
    (C_l_shifted : Cal P w K mg base 4 "_law_shifted" ["_law_rows", "_law_h"] (spD K gShiftL)) :
    Cal P w K mg base 5 "_law_moved" ["_law_rows", "_law_others"] (spD K gMovL) := by
  refine cal_of DF fun f fd Fu => FnG.dat Fu sc_l_moved (fun ds R h => ?_) (fun cdv A outer s H E gd hr F hF ds R h => ?_)
  · obtain ⟨rs, ss, rfl, lr, ls, kr, ks, wr, ws, h⟩ := h
    rfl
  · obtain ⟨rs, ss, rfl, lr, ls, kr, ks, wr, ws, h⟩ := h
    refine ⟨_, (pss_cons (ps_set (i := 2) sc_l_moved.nd rfl (.inl rfl) (pe_lst pa_nil))
      (pss_cons (ps_for PassesOwn.never rfl (pi_list (pv 0)) (pg_tup rfl (pgs_cons (pg_name (i := 3) sc_l_moved.nd rfl (Or.inl rfl)) (pgs_cons (pg_name (i := 4) sc_l_moved.nd rfl (Or.inl rfl)) (pgs_cons (pg_name (i := 5) sc_l_moved.nd rfl (Or.inr rfl)) pgs_nil))))
        (pss_one (ps_set (i := 2) sc_l_moved.nd rfl (.inl rfl) (pe_op op_addX (pv 2) (pe_lc (own := [("_law_one", 6), ("_law_other", 7), ("_law_n", 8)]) (g := gTup K 3 (gCons (gName 6) (gCons (gName 7) (gCons (gName 8) (gNil))))) rfl sc_l_moved.nd (pi_list (pe_c C_l_shifted (hr.mono (by decide)) gd (by rfl) (pa_cons (pv 1) (pa_cons (pv 3) pa_nil)))) (blkOk_by (own := [("_law_one", 6), ("_law_other", 7), ("_law_n", 8)]) (N := N_l_moved) (sc := defScope s_l_moved) (by decide +kernel)) (fun _ _ _ _ _ => (pg_tup rfl (pgs_cons (pg_name (i := 6) sc_l_moved.nd rfl (Or.inl rfl)) (pgs_cons (pg_name (i := 7) sc_l_moved.nd rfl (Or.inl rfl)) (pgs_cons (pg_name (i := 8) sc_l_moved.nd rfl (Or.inl rfl)) pgs_nil))))) (fun _ _ _ _ _ => pts_nil) (fun _ _ _ _ _ => (pe_tup (pa_cons (pv 6) (pa_cons (pv 7) (pa_cons (pe_op op_mulX (pv 8) (pv 5)) pa_nil))))))))))
      (pss_one (ps_ret (pv 2))))), ?_⟩
    dsimp only [cxOf, Cx.wish, startS, drawS, lawS, N_l_moved, List.map, List.length, List.replicate, List.append, List.set, List.cons_append, List.nil_append]
    walk_at "go"
    refine s_for w_list ?_
    walk_at "go"
    dsimp only [List.set, List.replicate]
    refine ⟨fun i δ' => ∃ a b c d e f : Sl, δ' = [.dat (.list (rs.map rwD)), .dat (.list (ss.map rwD)), .dat (.list (((rs.take i).flatMap fun r => ss.map (mvR r)).map rwD)), a, b, c, d, e, f], ⟨_, _, _, _, _, _, rfl⟩, fun i u δ' hi I => ?_, fun δ' I => ?_⟩
    · obtain ⟨a, b, c, d, e, f, rfl⟩ := I
      rw [List.getElem?_map] at hi
      obtain ⟨r, hr, rfl⟩ := Option.map_eq_some_iff.mp hi
      have mr := List.mem_of_getElem? hr
      have li := (List.getElem?_eq_some_iff.mp hr).1
      have tk := take_snoc hr
      have lp : ((rs.take i).flatMap fun r => ss.map (mvR r)).length ≤ 10000 := by
        rw [mv_len, List.length_take]
        exact Nat.mul_le_mul (Nat.le_trans (Nat.min_le_right ..) lr) ls
      dsimp only [rwD]
      walk_at "go"
      refine v_mapR w_list (gw_tup (gws_cons (gw_name (by simp)) (gws_cons (gw_name (by simp)) (gws_cons (gw_name (by simp)) gws_nil)))) (ss.map (shR r.lo)) rwD rwD (fun x y => y = ⟨x.lo, x.hi, x.n * r.n⟩) ?_
      walk_at "go"
      refine ⟨ss, r.lo, rfl, by omega, ks, (kr r mr).1, ?_⟩
      walk_at "go"
      refine ⟨rfl, by rw [List.length_map]; omega, fun q mq => ?_, fun M hM => ?_⟩
      · obtain ⟨o, mo, rfl⟩ := List.mem_map.mp mq
        have wo := ws o mo
        dsimp only [wipeS, List.set, rwD, shR, List.replicate]
        walk_at "go"
        refine ⟨MlOk.w 60 60 wo (wr r mr), ?_⟩
        walk_at "go"
        exact ⟨_, rfl, rfl⟩
      have eM := hM.toFn
      subst eM
      walk_at "go"
      refine ⟨by rw [List.length_map, List.length_map, List.length_map, List.length_map]; omega, ?_⟩
      refine g_name ⟨.dat (rD r.lo), .dat (rD r.hi), .dat (.int r.n), d, e, f, ?_⟩
      rw [tk, List.flatMap_append, show [r].flatMap (fun r => ss.map (mvR r)) = ss.map (mvR r) from List.append_nil _, List.map_map (l := ss), ← List.map_append (f := rwD)]
      rfl
    obtain ⟨a, b, c, d, e, f, rfl⟩ := I
    rw [List.length_map, List.take_length]
    walk_at "go"
    exact h
theorem ok_l_pairs (B : Bi K mg) (DF : Df K mg "_law_pairs" s_l_pairs ["_law_rows", "_law_others"])
    (C_l_plus : Cal P w K mg base 3 "_law_plus" ["_law_s", "_law_t"] (spD K gPlusL)) :
    Cal P w K mg base 4 "_law_pairs" ["_law_rows", "_law_others"] (spD K gPairsL) := by
  refine cal_of DF fun f fd Fu => FnG.dat Fu sc_l_pairs (fun ds R h => ?_) (fun cdv A outer s H E gd hr F hF ds R h => ?_)
  · obtain ⟨rs, ss, rfl, lr, ls, kr, ks, wr, ws, h⟩ := h
    rfl
  · obtain ⟨rs, ss, rfl, lr, ls, kr, ks, wr, ws, h⟩ := h
    refine ⟨_, (pss_cons (ps_set (i := 2) sc_l_pairs.nd rfl (.inl rfl) (pe_lst pa_nil))
      (pss_cons (ps_for PassesOwn.never rfl (pi_list (pv 0)) (pg_tup rfl (pgs_cons (pg_name (i := 3) sc_l_pairs.nd rfl (Or.inr rfl)) (pgs_cons (pg_name (i := 4) sc_l_pairs.nd rfl (Or.inr rfl)) (pgs_cons (pg_name (i := 5) sc_l_pairs.nd rfl (Or.inr rfl)) pgs_nil))))
        (pss_one (ps_set (i := 2) sc_l_pairs.nd rfl (.inl rfl) (pe_op op_addX (pv 2) (pe_lc (own := [("_law_a", 6), ("_law_b", 7), ("_law_n", 8)]) (g := gTup K 3 (gCons (gName 6) (gCons (gName 7) (gCons (gName 8) (gNil))))) rfl sc_l_pairs.nd (pi_list (pv 1)) (blkOk_by (own := [("_law_a", 6), ("_law_b", 7), ("_law_n", 8)]) (N := N_l_pairs) (sc := defScope s_l_pairs) (by decide +kernel)) (fun _ _ _ _ _ => (pg_tup rfl (pgs_cons (pg_name (i := 6) sc_l_pairs.nd rfl (Or.inl rfl)) (pgs_cons (pg_name (i := 7) sc_l_pairs.nd rfl (Or.inl rfl)) (pgs_cons (pg_name (i := 8) sc_l_pairs.nd rfl (Or.inl rfl)) pgs_nil))))) (fun _ _ _ _ _ => pts_nil) (fun _ _ _ _ _ => (pe_tup (pa_cons (pe_c C_l_plus (hr.mono (by decide)) gd (by rfl) (pa_cons (pv 3) (pa_cons (pv 6) pa_nil))) (pa_cons (pe_c C_l_plus (hr.mono (by decide)) gd (by rfl) (pa_cons (pv 4) (pa_cons (pv 7) pa_nil))) (pa_cons (pe_op op_mulX (pv 5) (pv 8)) pa_nil))))))))))
      (pss_one (ps_ret (pv 2))))), ?_⟩
    dsimp only [cxOf, Cx.wish, startS, drawS, lawS, N_l_pairs, List.map, List.length, List.replicate, List.append, List.set, List.cons_append, List.nil_append]
    walk_at "go"
    refine s_for w_list ?_
    walk_at "go"
    dsimp only [List.set, List.replicate]
    refine ⟨fun i δ' => ∃ a b c d e f : Sl, δ' = [.dat (.list (rs.map rwD)), .dat (.list (ss.map rwD)), .dat (.list ((pairsR (rs.take i) ss).map rwD)), a, b, c, d, e, f], ⟨_, _, _, _, _, _, rfl⟩, fun i u δ' hi I => ?_, fun δ' I => ?_⟩
    · obtain ⟨a, b, c, d, e, f, rfl⟩ := I
      rw [List.getElem?_map] at hi
      obtain ⟨r, hr, rfl⟩ := Option.map_eq_some_iff.mp hi
      have mr := List.mem_of_getElem? hr
      have li := (List.getElem?_eq_some_iff.mp hr).1
      have tk := take_snoc hr
      have lp : (pairsR (rs.take i) ss).length ≤ 10000 := by
        have e : (pairsR (rs.take i) ss).length = (rs.take i).length * ss.length := Pg.pairs_len _ _
        rw [e, List.length_take]
        exact Nat.mul_le_mul (Nat.le_trans (Nat.min_le_right ..) lr) ls
      dsimp only [rwD]
      walk_at "go"
      refine v_mapR w_list (gw_tup (gws_cons (gw_name (by simp)) (gws_cons (gw_name (by simp)) (gws_cons (gw_name (by simp)) gws_nil)))) ss rwD rwD (fun x y => y = prR r x) ?_
      walk_at "go"
      refine ⟨rfl, by omega, fun q mq => ?_, fun M hM => ?_⟩
      · dsimp only [wipeS, List.set, rwD, List.replicate]
        walk_at "go"
        refine ⟨r.lo, q.lo, rfl, (kr r mr).1, (ks q mq).1, ?_⟩
        walk_at "go"
        refine ⟨r.hi, q.hi, rfl, (kr r mr).2, (ks q mq).2, ?_⟩
        walk_at "go"
        refine ⟨MlOk.w 60 60 (wr r mr) (ws q mq), ?_⟩
        walk_at "go"
        exact ⟨_, rfl, rfl⟩
      have eM := hM.toFn
      subst eM
      walk_at "go"
      refine ⟨by rw [List.length_map, List.length_map, List.length_map]; omega, ?_⟩
      refine g_name ⟨.dat (rD r.lo), .dat (rD r.hi), .dat (.int r.n), d, e, f, ?_⟩
      rw [tk, pairs_app, show pairsR [r] ss = ss.map (prR r) from List.append_nil _, ← List.map_append (f := rwD)]
      rfl
    obtain ⟨a, b, c, d, e, f, rfl⟩ := I
    rw [List.length_map, List.take_length]
    walk_at "go"
    exact h
theorem ok_l_right (B : Bi K mg) (DF : Df K mg "_law_right" s_l_right ["_law_rows", "_law_others", "_law_more"])
    (C_p_put_steps : Cal P w K mg base 6 "put_steps" ["one", "other"] (spD K gPutS))
    (C_l_steps_of : Cal P w K mg base 5 "_law_steps_of" ["_law_rows"] (spD K gStepsOW))
    (C_p_added_steps : Cal P w K mg base 3 "added_steps" ["one", "other"] (spD K gAddS))
    (C_p_mirrored_steps : Cal P w K mg base 2 "mirrored_steps" ["steps"] (spD K gMirS))
    (C_p_step_sum : Cal P w K mg base 1 "step_sum" ["steps"] (spD K gStepSum))
    (C_l_pairs : Cal P w K mg base 4 "_law_pairs" ["_law_rows", "_law_others"] (spD K gPairsL)) :
    Cal P w K mg base 7 "_law_right" ["_law_rows", "_law_others", "_law_more"] (spD K gRightS) := by
  have m_repr := B.b_repr
  refine cal_of DF fun f fd Fu => FnG.dat Fu sc_l_right (fun ds R h => ?_) (fun cdv A outer s H E gd hr F hF ds R h => ?_)
  · obtain ⟨rs, ss, ts, rfl, Dr1, Dr2, Dr3, h⟩ := h
    rfl
  · obtain ⟨rs, ss, ts, rfl, Dr1, Dr2, Dr3, h⟩ := h
    refine ⟨_, (pss_cons (ps_asg (pe_lc (own := [("_law_some", 7)]) (g := gName 7) rfl sc_l_right.nd (pi_tup (pe_tup (pa_cons (pv 0) (pa_cons (pv 1) (pa_cons (pv 2) pa_nil))))) (blkOk_by (own := [("_law_some", 7)]) (N := N_l_right) (sc := defScope s_l_right) (by decide +kernel)) (fun _ _ _ _ _ => (pg_name (i := 7) sc_l_right.nd rfl (Or.inl rfl))) (fun _ _ _ _ _ => pts_nil) (fun _ _ _ _ _ => (pe_c C_l_steps_of (hr.mono (by decide)) gd (by rfl) (pa_cons (pv 7) pa_nil)))) (pg_lstK (K := K) rfl rfl (pgs_cons (pg_name (i := 4) sc_l_right.nd rfl (Or.inl rfl)) (pgs_cons (pg_name (i := 5) sc_l_right.nd rfl (Or.inl rfl)) (pgs_cons (pg_name (i := 6) sc_l_right.nd rfl (Or.inl rfl)) pgs_nil)))))
      (pss_cons (ps_set (i := 3) sc_l_right.nd rfl (.inl rfl) (pe_c C_p_put_steps (hr.mono (by decide)) gd (by rfl) (pa_cons (pv 4) (pa_cons (pv 5) pa_nil))))
      (pss_cons (ps_if ((pw_or (pt_cmpR (op_neX hr.units) (pe_callB (cr_repr hr gd) (by rfl) m_repr (by decide +kernel) (pa_cons (pv 3) pa_nil)) (pe_callB (cr_repr hr gd) (by rfl) m_repr (by decide +kernel) (pa_cons (pe_c C_l_steps_of (hr.mono (by decide)) gd (by rfl) (pa_cons (pe_c C_l_pairs (hr.mono (by decide)) gd (by rfl) (pa_cons (pv 0) (pa_cons (pv 1) pa_nil))) pa_nil)) pa_nil)) (nomark _)) (pw_or1 (pt_cmpR (op_neX hr.units) (pe_c C_p_put_steps (hr.mono (by decide)) gd (by rfl) (pa_cons (pv 5) (pa_cons (pv 4) pa_nil))) (pv 3) (nomark _))))).pt
        (pss_one (ps_ret pe_bl))
        pss_nil)
      (pss_cons (ps_if ((pw_or (pt_cmpR (op_neX hr.units) (pe_c C_p_step_sum (hr.mono (by decide)) gd (by rfl) (pa_cons (pv 3) pa_nil)) (pe_op op_mulX (pe_c C_p_step_sum (hr.mono (by decide)) gd (by rfl) (pa_cons (pv 4) pa_nil)) (pe_c C_p_step_sum (hr.mono (by decide)) gd (by rfl) (pa_cons (pv 5) pa_nil))) (nomark _)) (pw_or1 (pt_cmpR (op_neX hr.units) (pe_c C_p_put_steps (hr.mono (by decide)) gd (by rfl) (pa_cons (pv 4) (pa_cons (pe_tup pa_nil) pa_nil))) (pe_tup pa_nil) (nomark _))))).pt
        (pss_one (ps_ret pe_bl))
        pss_nil)
      (pss_cons (ps_if (pt_cmpR (op_neX hr.units) (pe_c C_p_put_steps (hr.mono (by decide)) gd (by rfl) (pa_cons (pv 3) (pa_cons (pv 6) pa_nil))) (pe_c C_p_put_steps (hr.mono (by decide)) gd (by rfl) (pa_cons (pv 4) (pa_cons (pe_c C_p_put_steps (hr.mono (by decide)) gd (by rfl) (pa_cons (pv 5) (pa_cons (pv 6) pa_nil))) pa_nil))) (nomark _))
        (pss_one (ps_ret pe_bl))
        pss_nil)
      (pss_cons (ps_if (pt_cmpR (op_neX hr.units) (pe_c C_p_added_steps (hr.mono (by decide)) gd (by rfl) (pa_cons (pv 3) (pa_cons (pe_c C_p_put_steps (hr.mono (by decide)) gd (by rfl) (pa_cons (pv 4) (pa_cons (pv 6) pa_nil))) pa_nil))) (pe_c C_p_put_steps (hr.mono (by decide)) gd (by rfl) (pa_cons (pv 4) (pa_cons (pe_c C_p_added_steps (hr.mono (by decide)) gd (by rfl) (pa_cons (pv 5) (pa_cons (pv 6) pa_nil))) pa_nil))) (nomark _))
        (pss_one (ps_ret pe_bl))
        pss_nil)
      (pss_one (ps_ret (pe_cmpR (op_eqX hr.units) (pe_c C_p_mirrored_steps (hr.mono (by decide)) gd (by rfl) (pa_cons (pv 3) pa_nil)) (pe_c C_p_put_steps (hr.mono (by decide)) gd (by rfl) (pa_cons (pe_c C_p_mirrored_steps (hr.mono (by decide)) gd (by rfl) (pa_cons (pv 4) pa_nil)) (pa_cons (pe_c C_p_mirrored_steps (hr.mono (by decide)) gd (by rfl) (pa_cons (pv 5) pa_nil)) pa_nil))) (nomark _)))))))))), ?_⟩
    dsimp only [cxOf, Cx.wish, startS, drawS, lawS, N_l_right, List.map, List.length, List.replicate, List.append, List.set, List.cons_append, List.nil_append]
    have dr : ∀ {n : Nat} {xs : List Rw}, n ≤ 3 → DrR n xs → ∃ s, LB 31 200 9 xs s ∧ xs.length ≤ n ∧ RowsOk xs ∧ RowsK 100 xs ∧ StepsOf xs s ∧ (∀ s', StepsOf xs s' → s' = s) ∧ ∀ r ∈ xs, r.n.natAbs < 2 ^ 60 := fun {n xs} hn D => by
      obtain ⟨s, S⟩ := ex_tells D.ok
      exact ⟨s, (LB.of (n := n) (m := 3) (w := 9) S D.ok D.k D.l D.n (by omega) (by decide)).up (by decide) (by omega) (by decide), D.l, D.ok, fun r m => ⟨(D.k r m).1.up (by decide), (D.k r m).2.up (by decide)⟩, S, fun s' S' => S'.t.uniq S.t, fun r m => Nat.lt_of_le_of_lt (D.n r m) (by decide)⟩
    obtain ⟨s1, B1, l1, o1, k1, S1, u1, w1⟩ := dr (by decide) Dr1
    obtain ⟨s2, B2, l2, o2, k2, S2, u2, w2⟩ := dr (by decide) Dr2
    obtain ⟨s3, B3, l3, o3, k3, S3, u3, w3⟩ := dr (by decide) Dr3
    clear dr Dr1 Dr2 Dr3
    walk_at "go"
    refine v_mapR w_tup (gw_name (by simp)) [(rs, s1), (ss, s2), (ts, s3)] (fun p => .list (p.1.map rwD)) (fun s => .tuple (s.map entD)) (fun p s => s = p.2) ?_
    walk_at "go"
    refine ⟨rfl, Nat.le_of_ble_eq_true rfl, fun p mp => ?_, fun M hM => ?_⟩
    · dsimp only [wipeS, List.set, List.replicate]
      have q : RowsOk p.1 ∧ p.1.length ≤ 3 ∧ RowsK 100 p.1 ∧ ∀ s', StepsOf p.1 s' → s' = p.2 := by
        simp only [List.mem_cons, List.not_mem_nil, or_false] at mp
        rcases mp with rfl | rfl | rfl
        · exact ⟨o1, l1, k1, u1⟩
        · exact ⟨o2, Nat.le_trans l2 (by decide), k2, u2⟩
        · exact ⟨o3, Nat.le_trans l3 (by decide), k3, u3⟩
      walk_at "go"
      exact ⟨p.1, rfl, q.1, by omega, q.2.2.1, fun s' S' => ⟨_, rfl, q.2.2.2 s' S'⟩⟩
    have eM := hM.toFn
    subst eM
    have em : ([(rs, s1), (ss, s2), (ts, s3)].map (fun p : List Rw × List E3 => p.2)).map (fun s => PyData.tuple (s.map entD)) = [.tuple (s1.map entD), .tuple (s2.map entD), .tuple (s3.map entD)] := rfl
    rw [em]
    obtain ⟨x12, X12⟩ := ex_tells (pairs_ok o1 o2)
    obtain ⟨x13, X13⟩ := ex_tells (pairs_ok o1 o3)
    obtain ⟨x23, X23⟩ := ex_tells (pairs_ok o2 o3)
    obtain ⟨x4, X4⟩ := ex_tells (pairs_ok (pairs_ok o1 o2) o3)
    have o23 : RowsOk (ss ++ ts) := fun r m => (List.mem_append.mp m).elim (o2 r) (o3 r)
    obtain ⟨a23, A23⟩ := ex_tells o23
    have o123 := pairs_ok o1 o23
    obtain ⟨x5, X5⟩ := ex_tells o123
    have B12 := B1.put B2 X12.t (by decide)
    have B13 := B1.put B3 X13.t (by decide)
    have B23 := B2.put B3 X23.t (by decide)
    have BA := B2.add B3 A23.t (by decide)
    have n12 := Pg.pairs_len rs ss
    have n13 := Pg.pairs_len rs ts
    have n23 := Pg.pairs_len ss ts
    have m12 : rs.length * ss.length ≤ 3 * 2 := Nat.mul_le_mul l1 l2
    have m21 : ss.length * rs.length ≤ 2 * 3 := Nat.mul_le_mul l2 l1
    have m13 : rs.length * ts.length ≤ 3 * 2 := Nat.mul_le_mul l1 l3
    have m23 : ss.length * ts.length ≤ 2 * 2 := Nat.mul_le_mul l2 l3
    have sh := B12.shw (by decide) (by omega) (by decide)
    have z1 := S1.l
    have z2 := S2.l
    have z3 := S3.l
    have z12 := X12.l
    walk_at "go"
    refine B1.gPut B2 (by decide) (by omega) (by omega) (by omega) (by decide) X12.t ?_
    walk_at "go"
    refine ⟨rs, ss, rfl, by omega, by omega, k1, k2, w1, w2, ?_⟩
    walk_at "go"
    refine ⟨_, rfl, pairs_ok o1 o2, by omega, fun r m => ⟨(B12.k r m).1.up (by decide), (B12.k r m).2.up (by decide)⟩, fun s' S' => ?_⟩
    rw [S'.t.uniq X12.t]
    walk_at "go"
    refine ⟨fun z => (by rw [same_nf rfl] at z; cases z), fun _ => ?_⟩
    walk_at "go"
    refine B2.gPut B1 (by decide) (by omega) (by omega) (by omega) (by decide) (by rw [put_comm' o2 o1]; exact X12.t) ?_
    walk_at "go"
    have ns : ∀ s : List E3, (!PyData.eqv (.tuple (s.map entD)) (.tuple (s.map entD))) = false := fun s => neq_same (plain_tuple (fun _ => rfl) _)
    refine .inl ⟨shaped_tup lay_ent _, shaped_tup lay_ent _, _, rfl, fun z => (by rw [ns] at z; cases z), fun _ => ?_⟩
    walk_at "go"
    refine ⟨x12, rfl, by omega, ?_⟩
    walk_at "go"
    refine ⟨s1, rfl, by omega, ?_⟩
    walk_at "go"
    refine ⟨s2, rfl, by omega, ?_⟩
    walk_at "go"
    have b1 : (stepSum s1).natAbs < 2 ^ 60 := Nat.lt_of_le_of_lt B1.ss (by decide)
    have b2 : (stepSum s2).natAbs < 2 ^ 60 := Nat.lt_of_le_of_lt B2.ss (by decide)
    have e12 : stepSum x12 = stepSum s1 * stepSum s2 := by
      rw [stepSum_lk X12.t (pairs_ok o1 o2), stepSum_lk S1.t o1, stepSum_lk S2.t o2]
      exact sum_pairs rs ss
    refine ⟨MlOk.w 60 60 b1 b2, ?_⟩
    rw [← e12]
    walk_at "go"
    refine ⟨fun z => (by rw [neq_same rfl] at z; cases z), fun _ => ?_⟩
    walk_at "go"
    refine B1.gPut (t := []) LB.nil (by decide) (by show rs.length * 0 ≤ 300; omega) (by omega) (by decide) (by decide) (u := []) (by rw [pairs_nil]; exact tells_nil) ?_
    walk_at "go"
    refine ⟨fun z => (by cases z), fun _ => ?_⟩
    walk_at "go"
    refine B12.gPut B3 (by decide) (by rw [n12]; have := Nat.mul_le_mul m12 l3; omega) (by omega) (by omega) (by decide) X4.t ?_
    walk_at "go"
    refine B2.gPut B3 (by decide) (by omega) (by omega) (by omega) (by decide) X23.t ?_
    walk_at "go"
    refine B1.gPut B23 (by decide) (by rw [n23]; have := Nat.mul_le_mul l1 m23; omega) (by omega) (by omega) (by decide) (by rw [← pairs_assoc]; exact X4.t) ?_
    walk_at "go"
    refine .inl ⟨shaped_tup lay_ent _, shaped_tup lay_ent _, _, rfl, fun z => (by rw [ns] at z; cases z), fun _ => ?_⟩
    walk_at "go"
    refine B1.gPut B3 (by decide) (by omega) (by omega) (by omega) (by decide) X13.t ?_
    walk_at "go"
    refine B12.gAdd B13 (by decide) (by decide) (by omega) (by omega) (by decide) (u := x5) (by rw [← put_add o1 o2 o3]; exact X5.t) ?_
    walk_at "go"
    refine B2.gAdd B3 (by decide) (by decide) (by omega) (by omega) (by decide) A23.t ?_
    walk_at "go"
    refine B1.gPut BA (by decide) (by rw [List.length_append]; have := Nat.mul_le_mul l1 (show ss.length + ts.length ≤ 4 by omega); omega) (by omega) (by rw [List.length_append]; omega) (by decide) X5.t ?_
    walk_at "go"
    refine .inl ⟨shaped_tup lay_ent _, shaped_tup lay_ent _, _, rfl, fun z => (by rw [ns] at z; cases z), fun _ => ?_⟩
    walk_at "go"
    refine ⟨x12, rfl, by omega, ?_⟩
    walk_at "go"
    refine ⟨s1, rfl, by omega, ?_⟩
    walk_at "go"
    refine ⟨s2, rfl, by omega, ?_⟩
    walk_at "go"
    refine B1.mir.gPut B2.mir (by decide) (by rw [List.length_map, List.length_map]; omega) (by rw [List.length_map]; omega) (by rw [List.length_map]; omega) (by decide) (by rw [pairs_mir]; exact tells_mir X12.t (pairs_ok o1 o2)) ?_
    walk_at "go"
    refine .inl ⟨shaped_tup lay_ent _, shaped_tup lay_ent _, ?_⟩
    rw [eqv_same (plain_tuple (fun _ => rfl) _)]
    exact h
theorem ok_l_ends_right (B : Bi K mg) (DF : Df K mg "_law_ends_right" s_l_ends_right ["_law_one", "_law_other"])
    (C_p_tops_of : Cal P w K mg base 1 "tops_of" ["steps"] (spD K gTopsE))
    (C_l_plus : Cal P w K mg base 3 "_law_plus" ["_law_s", "_law_t"] (spD K gPlusL))
    (C_p_put_steps : Cal P w K mg base 6 "put_steps" ["one", "other"] (spD K gPutS)) :
    Cal P w K mg base 7 "_law_ends_right" ["_law_one", "_law_other"] (spD K gEndsR) := by
  refine cal_of DF fun f fd Fu => FnG.dat Fu sc_l_ends_right (fun ds R h => ?_) (fun cdv A outer s H E gd hr F hF ds R h => ?_)
  · obtain ⟨rs, ss, s, t, rfl, hs, ht, lr, ls, h⟩ := h
    rfl
  · obtain ⟨rs, ss, s, t, rfl, hs, ht, lr, ls, h⟩ := h
    refine ⟨_, (pss_cons (ps_setLc (i := 2) (own := [("_law_steps_here", 5)]) (g := gName 5) rfl sc_l_ends_right.nd rfl rfl (sw_true rfl rfl rfl (by decide +kernel)) (pi_tup (pe_tup (pa_cons (pv 0) (pa_cons (pv 1) (pa_cons (pe_c C_p_put_steps (hr.mono (by decide)) gd (by rfl) (pa_cons (pv 0) (pa_cons (pv 1) pa_nil))) pa_nil))))) (blkOk_by (own := [("_law_steps_here", 5)]) (N := N_l_ends_right) (sc := defScope s_l_ends_right) (by decide +kernel)) (fun _ _ _ _ _ => (pg_name (i := 5) sc_l_ends_right.nd rfl (Or.inl rfl))) (fun _ _ _ _ _ => pts_nil) (fun _ _ _ _ _ => (pe_c C_p_tops_of (hr.mono (by decide)) gd (by rfl) (pa_cons (pv 5) pa_nil))))
      (pss_cons (ps_if ((pw_or (pt_cmpR (op_eqX hr.units) (pe_ix (ix_seqK (K := K) rfl) (pv 2) pe_int (fun _ _ => rfl)) (pe_lst pa_nil) (nomark _)) (pw_or1 (pt_cmpR (op_eqX hr.units) (pe_ix (ix_seqK (K := K) rfl) (pv 2) pe_int (fun _ _ => rfl)) (pe_lst pa_nil) (nomark _))))).pt
        (pss_one (ps_ret (pe_cmpR (op_eqX hr.units) (pe_ix (ix_seqK (K := K) rfl) (pv 2) pe_int (fun _ _ => rfl)) (pe_lst pa_nil) (nomark _))))
        pss_nil)
      (pss_cons (ps_par (i := 3) (j := 4) rfl sc_l_ends_right.nd rfl rfl (by decide) rfl rfl (pa_cons (pe_ix (ix_seqK (K := K) rfl) (pe_ix (ix_seqK (K := K) rfl) (pv 2) pe_int (fun _ _ => rfl)) (pe_un un_neg pe_int) (fun _ _ => rfl)) (pa_cons (pe_ix (ix_seqK (K := K) rfl) (pe_ix (ix_seqK (K := K) rfl) (pv 2) pe_int (fun _ _ => rfl)) (pe_un un_neg pe_int) (fun _ _ => rfl)) pa_nil)) rfl)
      (pss_one (ps_ret (pe_cmpR (op_eqX hr.units) (pe_ix (ix_seqK (K := K) rfl) (pe_ix (ix_seqK (K := K) rfl) (pv 2) pe_int (fun _ _ => rfl)) (pe_un un_neg pe_int) (fun _ _ => rfl)) (pe_tup (pa_cons (pe_c C_l_plus (hr.mono (by decide)) gd (by rfl) (pa_cons (pe_ix (ix_seqK (K := K) rfl) (pv 3) pe_int (fun _ _ => rfl)) (pa_cons (pe_ix (ix_seqK (K := K) rfl) (pv 4) pe_int (fun _ _ => rfl)) pa_nil))) (pa_cons (pe_op op_mulX (pe_ix (ix_seqK (K := K) rfl) (pv 3) pe_int (fun _ _ => rfl)) (pe_ix (ix_seqK (K := K) rfl) (pv 4) pe_int (fun _ _ => rfl))) pa_nil))) (nomark _))))))), ?_⟩
    dsimp only [cxOf, Cx.wish, startS, drawS, lawS, N_l_ends_right, List.map, List.length, List.replicate, List.append, List.set, List.cons_append, List.nil_append]
    have Z1 := hs.s
    have Z2 := ht.s
    have l1 := Z1.l
    have l2 := Z2.l
    obtain ⟨u, U⟩ := ex_tells (pairs_ok hs.ok ht.ok)
    have uu : ∀ v, Tells v (V3 (pairsR rs ss)) → v = u := fun v W => W.uniq U.t
    have lu := U.l
    rw [Pg.pairs_len] at lu
    have l9 : rs.length * ss.length ≤ 3 * 3 := Nat.mul_le_mul lr ls
    have put0 := top_put0 hs.t ht.t U.t hs.ok ht.ok
    have put1 := fun p q => top_put hs.t ht.t U.t hs.ok ht.ok (p := p) (q := q)
    obtain ⟨D, L1, d1, _⟩ := id hs
    obtain ⟨E, L2, d2, _⟩ := id ht
    have dd : (D * E).natAbs < 2 ^ 4000 := Nat.lt_of_lt_of_le (wide_lt d1 d2) (Nat.pow_le_pow_right (by decide) (by decide))
    walk_at "go"
    refine v_mapR w_tup (gw_name (by simp)) [s, t, u] (fun s => .tuple (s.map entD)) (fun l => .list (l.map p2D)) (fun s l => l = topsE s) ?_
    walk_at "go"
    refine ⟨31, 31, D, E, rs, ss, s, t, rfl, L1, L2, by decide, by omega, by omega, by omega, dd, fun v W => ?_⟩
    rw [uu v W]
    walk_at "go"
    refine ⟨rfl, Nat.le_of_ble_eq_true rfl, fun p mp => ?_, fun M hM => ?_⟩
    · dsimp only [wipeS, List.set, List.replicate]
      have q : p.length ≤ 100 := by
        simp only [List.mem_cons, List.not_mem_nil, or_false] at mp
        rcases mp with rfl | rfl | rfl <;> omega
      walk_at "go"
      exact ⟨p, rfl, by omega, _, rfl, rfl⟩
    have eM := hM.toFn
    subst eM
    have em : ([s, t, u].map fun s => topsE s).map (fun l => PyData.list (l.map p2D)) = [.list ((topsE s).map p2D), .list ((topsE t).map p2D), .list ((topsE u).map p2D)] := rfl
    rw [em]
    walk_at "go"
    have lp : ∀ l : List (Rat × Int), SeqAt.shaped (.list (l.map p2D)) = true := fun l => shaped_lst (fun _ => ⟨rfl, Nat.le_of_ble_eq_true rfl⟩) l
    have emp : ∀ l : List (Rat × Int), PyData.eqv (.list (l.map p2D)) (.list []) = l.isEmpty := fun l => by cases l <;> rfl
    refine .inl ⟨lp _, rfl, _, rfl, fun z => ?_, fun z => ?_⟩
    · rw [emp, List.isEmpty_iff] at z
      walk_at "go"
      refine .inl ⟨lp _, rfl, ?_⟩
      rw [emp, put0 (.inl z)]
      exact h
    · rw [emp] at z
      walk_at "go"
      refine .inl ⟨lp _, rfl, _, rfl, fun w => ?_, fun w => ?_⟩
      · rw [emp, List.isEmpty_iff] at w
        walk_at "go"
        refine .inl ⟨lp _, rfl, ?_⟩
        rw [emp, put0 (.inr w)]
        exact h
      · rw [emp] at w
        obtain ⟨p, ep⟩ := last_ex z
        obtain ⟨q, eq⟩ := last_ex w
        have er := put1 p q ep eq
        have ap := at_top ep
        have aq := at_top eq
        have ar := at_top er
        walk_at "go"
        refine ⟨_, _, _, rfl, rfl, ap, ?_⟩
        walk_at "go"
        refine ⟨_, _, _, rfl, rfl, aq, ?_⟩
        walk_at "go"
        refine ⟨_, _, _, rfl, rfl, ar, ?_⟩
        obtain ⟨kp, np⟩ := hs.top ep
        obtain ⟨kq, nq⟩ := ht.top eq
        walk_at "go"
        refine ⟨p.1, q.1, rfl, kp.up (by decide), kq.up (by decide), ?_⟩
        walk_at "go"
        refine ⟨MlOk.w 60 60 (Nat.lt_of_le_of_lt np (by decide)) (Nat.lt_of_le_of_lt nq (by decide)), ?_⟩
        walk_at "go"
        rw [show PyData.tuple [rD (p.1 + q.1), .int (p.2 * q.2)] = p2D (p.1 + q.1, p.2 * q.2) from rfl, eqv_same rfl]
        exact h
end
section
variable {P : Program} {w : World} {K : PySem.W.Frag} {mg : Str → Option Value} {base : Heap}
theorem ok_law (B : Bi K mg) {f : Addr} {fd : FuncData} (F : Fun K "law" "law" s_law f fd)
    (C_l_open_cells : Cal P w K mg base 1 "_law_open_cells" ["_law_script"] (spOpen K))
    (C_l_steps_of : Cal P w K mg base 5 "_law_steps_of" ["_law_rows"] (spD K gStepsOW))
    (C_l_draw_stretches : Cal P w K mg base 3 "_law_draw_stretches" ["_law_source", "_law_most"] (spS K gDrawStr))
    (C_p_put_steps : Cal P w K mg base 6 "put_steps" ["one", "other"] (spD K gPutS))
    (C_l_right : Cal P w K mg base 7 "_law_right" ["_law_rows", "_law_others", "_law_more"] (spD K gRightS))
    (C_l_ends_right : Cal P w K mg base 7 "_law_ends_right" ["_law_one", "_law_other"] (spD K gEndsR))
    (C_l_shifted : Cal P w K mg base 4 "_law_shifted" ["_law_rows", "_law_h"] (spD K gShiftL))
    (C_l_moved : Cal P w K mg base 5 "_law_moved" ["_law_rows", "_law_others"] (spD K gMovL)) :
    FnG CX0 P w K mg base 8 f fd ["_law_script"] (spLaw K) := by
  have m_range := B.b_range
  refine FnG.of_fun F sc_law (fun vs H Q E h => ?_) (fun cdv A outer s H vs Q E gd hr h => ?_)
  · obtain ⟨a, ns, rfl, _⟩ := h
    rfl
  · obtain ⟨a, ns, rfl, hS, hlen, q⟩ := h
    refine ⟨_, (pss_cons (ps_set (i := 1) sc_law.nd rfl (.inr rfl) (pe_c C_l_open_cells (hr.mono (by decide)) gd (by rfl) (pa_cons (pv 0) pa_nil)))
      (pss_cons (ps_for PassesOwn.never rfl (pi_range1 (by rfl) m_range (pa_cons pe_int pa_nil)) (pg_name (i := 2) sc_law.nd rfl (Or.inl rfl))
        (pss_cons (ps_asg (pe_lc (own := [("_law_turn", 11)]) (g := gName 11) rfl sc_law.nd (pi_range1 (by rfl) m_range (pa_cons pe_int pa_nil)) (blkOk_by (own := [("_law_turn", 11)]) (N := N_law) (sc := defScope s_law) (by decide +kernel)) (fun _ _ _ _ _ => (pg_name (i := 11) sc_law.nd rfl (Or.inl rfl))) (fun _ _ _ _ _ => pts_nil) (fun _ _ _ _ _ => (pe_c C_l_draw_stretches (hr.mono (by decide)) gd (by rfl) (pa_cons (pv 1) (pa_cons pe_int pa_nil))))) (pg_lstK (K := K) rfl rfl (pgs_cons (pg_name (i := 5) sc_law.nd rfl (Or.inl rfl)) (pgs_cons (pg_name (i := 6) sc_law.nd rfl (Or.inl rfl)) (pgs_cons (pg_name (i := 7) sc_law.nd rfl (Or.inl rfl)) pgs_nil)))))
          (pss_cons (ps_chk ((pw_or (pt_not (pt_val (pe_c C_l_right (hr.mono (by decide)) gd (by rfl) (pa_cons (pv 5) (pa_cons (pe_slice (sl_listK (K := K) rfl) (pv 6) po_none (po_some pe_int)) (pa_cons (pe_slice (sl_listK (K := K) rfl) (pv 7) po_none (po_some pe_int)) pa_nil)))))) (pw_or1 (pt_not (pt_val (pe_c C_l_ends_right (hr.mono (by decide)) gd (by rfl) (pa_cons (pe_c C_l_steps_of (hr.mono (by decide)) gd (by rfl) (pa_cons (pv 5) pa_nil)) (pa_cons (pe_c C_l_steps_of (hr.mono (by decide)) gd (by rfl) (pa_cons (pv 6) pa_nil)) pa_nil)))))))).pt (pss_one (ps_ret pe_bl)))
          (pss_cons (ps_asg (pe_ix (ix_seqK (K := K) rfl) (pe_op op_addX (pv 5) (pe_lst (pa_cons (pe_tup (pa_cons (pe_tup (pa_cons pe_int (pa_cons pe_int pa_nil))) (pa_cons (pe_tup (pa_cons pe_int (pa_cons pe_int pa_nil))) (pa_cons pe_int pa_nil)))) pa_nil))) pe_int (fun _ _ => rfl)) (pg_tup rfl (pgs_cons (pg_name (i := 8) sc_law.nd rfl (Or.inl rfl)) (pgs_cons (pg_name (i := 9) sc_law.nd rfl (Or.inl rfl)) (pgs_cons (pg_name (i := 10) sc_law.nd rfl (Or.inl rfl)) pgs_nil)))))
          (pss_cons (ps_set (i := 3) sc_law.nd rfl (.inl rfl) (pe_c C_l_steps_of (hr.mono (by decide)) gd (by rfl) (pa_cons (pe_lst (pa_cons (pe_tup (pa_cons (pv 8) (pa_cons (pv 9) (pa_cons pe_int pa_nil)))) pa_nil)) pa_nil)))
          (pss_cons (ps_setO (i := 4) sc_law.nd rfl (.inl rfl) (pe_lst (pa_cons (pe_op (op_catAK (K := K) rfl) (pe_op (op_repTK (K := K) rfl) (pe_tup (pa_cons (pe_tup (pa_cons (pe_un un_neg (pe_ix (ix_seqK (K := K) rfl) (pv 9) pe_int (fun _ _ => rfl))) (pa_cons (pe_ix (ix_seqK (K := K) rfl) (pv 9) pe_int (fun _ _ => rfl)) pa_nil))) pa_nil)) pe_int) (pe_tup (pa_cons pe_int pa_nil))) (pa_cons (pe_op (op_catAK (K := K) rfl) (pe_op (op_repTK (K := K) rfl) (pe_tup (pa_cons (pe_tup (pa_cons (pe_un un_neg (pe_ix (ix_seqK (K := K) rfl) (pv 8) pe_int (fun _ _ => rfl))) (pa_cons (pe_ix (ix_seqK (K := K) rfl) (pv 8) pe_int (fun _ _ => rfl)) pa_nil))) pa_nil)) pe_int) (pe_tup (pa_cons pe_int pa_nil))) pa_nil))))
          (pss_cons (ps_expr (pe_bm PySem.F.plainAttrs_list PySem.F.slot_list_append PySem.F.type_list_append mt_append (pv 4) (pa_cons (pe_tup (pa_cons (pe_ix (ix_seqK (K := K) rfl) (pe_ix (ix_seqK (K := K) rfl) (pv 4) pe_int (fun _ _ => rfl)) pe_int (fun _ _ => rfl)) (pa_cons (pe_ix (ix_seqK (K := K) rfl) (pe_ix (ix_seqK (K := K) rfl) (pv 4) pe_int (fun _ _ => rfl)) pe_int (fun _ _ => rfl)) (pa_cons (pe_un un_neg pe_int) pa_nil)))) pa_nil)))
          (pss_cons (ps_chk (pt_cmpR (op_neX hr.units) (pe_c C_p_put_steps (hr.mono (by decide)) gd (by rfl) (pa_cons (pv 3) (pa_cons (pe_c C_l_steps_of (hr.mono (by decide)) gd (by rfl) (pa_cons (pv 4) pa_nil)) pa_nil))) (pe_tup (pa_cons (pe_tup (pa_cons (pe_tup (pa_cons pe_int (pa_cons pe_int pa_nil))) (pa_cons pe_int (pa_cons pe_int pa_nil)))) pa_nil)) (nomark _)) (pss_one (ps_ret pe_bl)))
          (pss_cons (ps_chk (pt_cmpR (op_neX hr.units) (pe_c C_p_put_steps (hr.mono (by decide)) gd (by rfl) (pa_cons (pe_c C_l_steps_of (hr.mono (by decide)) gd (by rfl) (pa_cons (pv 5) pa_nil)) (pa_cons (pe_tup (pa_cons (pe_tup (pa_cons (pe_tup (pa_cons pe_int (pa_cons pe_int pa_nil))) (pa_cons pe_int (pa_cons pe_int pa_nil)))) pa_nil)) pa_nil))) (pe_c C_l_steps_of (hr.mono (by decide)) gd (by rfl) (pa_cons (pe_c C_l_shifted (hr.mono (by decide)) gd (by rfl) (pa_cons (pv 5) (pa_cons (pe_tup (pa_cons pe_int (pa_cons pe_int pa_nil))) pa_nil))) pa_nil)) (nomark _)) (pss_one (ps_ret pe_bl)))
          (pss_one (ps_chk (pt_cmpR (op_neX hr.units) (pe_c C_p_put_steps (hr.mono (by decide)) gd (by rfl) (pa_cons (pe_c C_l_steps_of (hr.mono (by decide)) gd (by rfl) (pa_cons (pv 5) pa_nil)) (pa_cons (pe_tup (pa_cons (pe_tup (pa_cons (pe_tup (pa_cons (pe_un un_neg pe_int) (pa_cons pe_int pa_nil))) (pa_cons (pe_un un_neg pe_int) (pa_cons pe_int pa_nil)))) pa_nil)) pa_nil))) (pe_c C_l_steps_of (hr.mono (by decide)) gd (by rfl) (pa_cons (pe_c C_l_moved (hr.mono (by decide)) gd (by rfl) (pa_cons (pe_lst (pa_cons (pe_tup (pa_cons (pe_tup (pa_cons (pe_un un_neg pe_int) (pa_cons pe_int pa_nil))) (pa_cons (pe_tup (pa_cons (pe_un un_neg pe_int) (pa_cons pe_int pa_nil))) (pa_cons (pe_un un_neg pe_int) pa_nil)))) pa_nil)) (pa_cons (pv 5) pa_nil))) pa_nil)) (nomark _)) (pss_one (ps_ret pe_bl)))))))))))))
      (pss_one (ps_ret pe_bl)))), ?_⟩
    refine ⟨_, rfl, a, ns, rfl, hS, hlen, fun H1 p c sm np nc S => ?_⟩
    dsimp only [gName]
    refine law_enter (K := K) (n := 12) (j := 1) S rfl rfl q fun F => ?_
    dsimp only [cxOf, Cx.wish, startS, drawS, lawS, N_law, List.map, List.length, List.replicate, List.append, List.set, List.cons_append, List.nil_append]
    walk_at "go"
    refine s_forS (lawS 12 1) w_range1 ?_
    walk_at "go"
    refine ⟨by decide, by decide, ?_⟩
    refine ⟨by simp [Le, lawS, List.set], fun x hx => ?_, fun δ' l => s_weak l ?_⟩
    · dsimp only [lawS]
      walk_at "go"
      refine v_mapI w_range1 (gw_name (by simp)) (fun _ w => ∃ rs : List Rw, w = .list (rs.map rwD) ∧ DrR 3 rs) ?_
      walk_at "go"
      refine ⟨by decide, by decide, by rw [rangeD_len]; decide, fun i w hw => ?_, fun ys ly hy => ?_⟩
      · dsimp only [wipeS, List.set, List.replicate]
        walk_at "go"
        exact ⟨3, rfl, by decide, fun rs D => ⟨rs, rfl, D⟩⟩
      rw [rangeD_len] at ly
      have ly : ys.length = 3 := ly
      obtain ⟨rs, ss, ts, rfl, D1, D2, D3⟩ : ∃ rs ss ts : List Rw, ys = [.list (rs.map rwD), .list (ss.map rwD), .list (ts.map rwD)] ∧ DrR 3 rs ∧ DrR 3 ss ∧ DrR 3 ts := by
        match ys, ly with
        | [a, b, c], _ =>
          obtain ⟨rs, e1, D1⟩ := hy 0 a rfl
          obtain ⟨ss, e2, D2⟩ := hy 1 b rfl
          obtain ⟨ts, e3, D3⟩ := hy 2 c rfl
          exact ⟨rs, ss, ts, by rw [e1, e2, e3], D1, D2, D3⟩
      clear hy ly
      obtain ⟨s1, S1⟩ := ex_tells D1.ok
      obtain ⟨s2, S2⟩ := ex_tells D2.ok
      have B1 : LB 31 200 9 rs s1 := (LB.of (n := 3) (m := 3) (w := 9) S1 D1.ok D1.k D1.l D1.n (by omega) (by decide)).up (by decide) (by omega) (by decide)
      have B2 : LB 31 200 9 ss s2 := (LB.of (n := 3) (m := 3) (w := 9) S2 D2.ok D2.k D2.l D2.n (by omega) (by decide)).up (by decide) (by omega) (by decide)
      have tk : ∀ {xs : List Rw}, DrR 3 xs → DrR 2 (xs.take 2) := fun {xs} D => ⟨fun r m => D.ok r (List.mem_of_mem_take m), by rw [List.length_take]; omega, fun r m => D.k r (List.mem_of_mem_take m), fun r m => D.n r (List.mem_of_mem_take m)⟩
      have l1 := D1.l
      have l2 := D2.l
      have k1 : RowsK 100 rs := fun r m => ⟨(D1.k r m).1.up (by decide), (D1.k r m).2.up (by decide)⟩
      have k2 : RowsK 100 ss := fun r m => ⟨(D2.k r m).1.up (by decide), (D2.k r m).2.up (by decide)⟩
      walk_at "go"
      · refine ⟨rs, ss.take 2, ts.take 2, ?_, D1, tk D2, tk D3, ?_⟩
        · rw [show (some (2 : Int)) = some ((2 : Nat) : Int) from rfl, cut_to, cut_to, List.map_take, List.map_take]
        walk_at "go"
        refine ⟨fun z => (by cases z), fun _ => ?_⟩
        walk_at "go"
        refine ⟨rs, rfl, D1.ok, by omega, k1, fun s' S' => ?_⟩
        rw [S'.t.uniq S1.t]
        walk_at "go"
        refine ⟨ss, rfl, D2.ok, by omega, k2, fun s' S' => ?_⟩
        rw [S'.t.uniq S2.t]
        walk_at "go"
        refine ⟨rs, ss, s1, s2, rfl, B1, B2, l1, l2, ?_⟩
        walk_at "go"
        rfl
      obtain ⟨r, er, le, kl, kh⟩ := first_row D1
      dsimp only [List.set, List.replicate]
      walk_at "go"
      refine ⟨by rw [List.length_map]; show rs.length + 1 ≤ 1000000; omega, ?_⟩
      walk_at "go"
      refine ⟨_, _, _, rfl, rfl, er, ?_⟩
      dsimp only [rwD]
      walk_at "go"
      have oO : RowsOk [(⟨r.lo, r.hi, 1⟩ : Rw)] := fun q m => (by rw [List.mem_singleton.mp m]; exact le)
      have kO : RowsK 31 [(⟨r.lo, r.hi, 1⟩ : Rw)] := fun q m => (by rw [List.mem_singleton.mp m]; exact ⟨kl, kh⟩)
      have hb : ∀ q ∈ [(⟨-r.hi, -r.hi, 1⟩ : Rw), ⟨-r.lo, -r.lo, 1⟩, ⟨-r.hi, -r.lo, -1⟩], q.lo ≤ q.hi ∧ (Rk 31 q.lo ∧ Rk 31 q.hi) ∧ q.n.natAbs ≤ 1 := fun q m => by
        simp only [List.mem_cons, List.not_mem_nil, or_false] at m
        rcases m with rfl | rfl | rfl
        · exact ⟨Rat.le_refl, ⟨rk_neg kh, rk_neg kh⟩, Nat.le_refl _⟩
        · exact ⟨Rat.le_refl, ⟨rk_neg kl, rk_neg kl⟩, Nat.le_refl _⟩
        · exact ⟨Rat.neg_le_neg le, ⟨rk_neg kh, rk_neg kl⟩, Nat.le_refl _⟩
      have oB : RowsOk [(⟨-r.hi, -r.hi, 1⟩ : Rw), ⟨-r.lo, -r.lo, 1⟩, ⟨-r.hi, -r.lo, -1⟩] := fun q m => (hb q m).1
      have kB : RowsK 31 [(⟨-r.hi, -r.hi, 1⟩ : Rw), ⟨-r.lo, -r.lo, 1⟩, ⟨-r.hi, -r.lo, -1⟩] := fun q m => (hb q m).2.1
      obtain ⟨sO, SO⟩ := ex_tells oO
      obtain ⟨sB, SB⟩ := ex_tells oB
      have BO : LB 31 200 9 [(⟨r.lo, r.hi, 1⟩ : Rw)] sO := (LB.of (n := 1) (m := 1) (w := 9) SO oO kO (Nat.le_refl _) (fun q m => (by rw [List.mem_singleton.mp m]; exact Nat.le_refl _)) (by omega) (by decide)).up (by decide) (by omega) (by decide)
      have BB : LB 31 200 9 [(⟨-r.hi, -r.hi, 1⟩ : Rw), ⟨-r.lo, -r.lo, 1⟩, ⟨-r.hi, -r.lo, -1⟩] sB := (LB.of (n := 3) (m := 1) (w := 9) SB oB kB (Nat.le_refl _) (fun q m => (hb q m).2.2) (by omega) (by decide)).up (by decide) (by omega) (by decide)
      refine ⟨[⟨r.lo, r.hi, 1⟩], rfl, oO, Nat.le_of_ble_eq_true rfl, fun q m => ⟨(kO q m).1.up (by decide), (kO q m).2.up (by decide)⟩, fun s' S' => ?_⟩
      rw [S'.t.uniq SO.t]
      have pt := back_pt le
      clear er hb
      have q1 : ∀ h : Rat, PyData.tuple ((List.replicate (Int.toNat 2) [PyData.tuple [.int (-h.num), .int h.den]]).flatten ++ [.int 1]) = rwD ⟨-h, -h, 1⟩ := fun h => rfl
      refine g_name (s_seq (SV.toN (N := fun δ' => δ' = [.no, .src, .dat x, .dat (.tuple (sO.map entD)), .own [rwD ⟨-r.hi, -r.hi, 1⟩, rwD ⟨-r.lo, -r.lo, 1⟩], .dat (.list (rs.map rwD)), .dat (.list (ss.map rwD)), .dat (.list (ts.map rwD)), .dat (rD r.lo), .dat (rD r.hi), .dat (.int r.n), .no]) ?_ ?_))
      · walk_at "go"
        refine ⟨List.cons_ne_nil _ _, by decide, by decide, Nat.le_of_ble_eq_true rfl, ?_⟩
        walk_at "go"
        refine ⟨List.cons_ne_nil _ _, by decide, by decide, Nat.le_of_ble_eq_true rfl, ?_⟩
        walk_at "go"
        rfl
      rintro δ' rfl
      refine s_seq (s_push (i := 4) rfl (v_lookN (i := 4) rfl ?_))
      dsimp only [List.set]
      walk_at "go"
      refine ⟨rfl, Nat.le_of_ble_eq_true rfl, ?_⟩
      refine s_rel (i := 4) rfl ?_
      dsimp only [List.set]
      have k32 : Rk 31 r32 := ⟨by decide, by decide⟩
      have k13 : Rk 31 rm13 := ⟨by decide, by decide⟩
      have P32 := LB.pt k32 (n := 1) (by decide) (by decide)
      have P13 := LB.pt k13 (n := -2) (by decide) (by decide)
      have o32 := pairs_ok D1.ok P32.ok
      have o13 := pairs_ok D1.ok P13.ok
      obtain ⟨u1, U1⟩ := ex_tells o32
      obtain ⟨u2, U2⟩ := ex_tells o13
      have L32 := B1.put P32 U1.t (by decide)
      have L13 := B1.put P13 U2.t (by decide)
      have ns : ∀ s : List E3, (!PyData.eqv (.tuple (s.map entD)) (.tuple (s.map entD))) = false := fun s => neq_same (plain_tuple (fun _ => rfl) _)
      walk_at "go"
      · refine ⟨[⟨-r.hi, -r.hi, 1⟩, ⟨-r.lo, -r.lo, 1⟩, ⟨-r.hi, -r.lo, -1⟩], rfl, oB, Nat.le_of_ble_eq_true rfl, fun q m => ⟨(kB q m).1.up (by decide), (kB q m).2.up (by decide)⟩, fun s' S' => ?_⟩
        rw [S'.t.uniq SB.t]
        walk_at "go"
        refine BO.gPut BB (by decide) (Nat.le_of_ble_eq_true rfl) (Nat.le_of_ble_eq_true rfl) (Nat.le_of_ble_eq_true rfl) (by decide) (u := [((0 : Rat), 1, 0)]) (by rw [pt]; exact tells_pt (by decide)) ?_
        walk_at "go"
        exact ns [((0 : Rat), 1, 0)]
      walk_at "go"
      · refine ⟨rs, rfl, D1.ok, by omega, k1, fun s' S' => ?_⟩
        rw [S'.t.uniq S1.t]
        walk_at "go"
        refine B1.gPut P32 (by decide) (by show rs.length * 1 ≤ 300; omega) (by omega) (Nat.le_of_ble_eq_true rfl) (by decide) U1.t ?_
        walk_at "go"
        refine ⟨rs, r32, rfl, by omega, k1, k32.up (by decide), ?_⟩
        rw [← sh_one]
        walk_at "go"
        refine ⟨_, rfl, o32, ?_, fun q m => ⟨(L32.k q m).1.up (by decide), (L32.k q m).2.up (by decide)⟩, fun s' S' => ?_⟩
        · rw [Pg.pairs_len]
          show rs.length * 1 ≤ 1000
          omega
        rw [S'.t.uniq U1.t]
        exact .inl ⟨shaped_tup lay_ent _, shaped_tup lay_ent _, _, rfl, ns _⟩
      walk_at "go"
      · refine ⟨rs, rfl, D1.ok, by omega, k1, fun s' S' => ?_⟩
        rw [S'.t.uniq S1.t]
        walk_at "go"
        refine B1.gPut P13 (by decide) (by show rs.length * 1 ≤ 300; omega) (by omega) (Nat.le_of_ble_eq_true rfl) (by decide) U2.t ?_
        walk_at "go"
        refine ⟨[⟨rm13, rm13, -2⟩], rs, rfl, Nat.le_of_ble_eq_true rfl, by omega, fun q m => (by rw [List.mem_singleton.mp m]; exact ⟨k13.up (by decide), k13.up (by decide)⟩), k1, fun q m => (by rw [List.mem_singleton.mp m]; decide), fun q m => Nat.lt_of_le_of_lt (D1.n q m) (by decide), ?_⟩
        rw [show [(⟨rm13, rm13, -2⟩ : Rw)].flatMap (fun r => rs.map (mvR r)) = rs.map (mvR ⟨rm13, rm13, -2⟩) from List.append_nil _, ← mv_one]
        walk_at "go"
        refine ⟨_, rfl, o13, ?_, fun q m => ⟨(L13.k q m).1.up (by decide), (L13.k q m).2.up (by decide)⟩, fun s' S' => ?_⟩
        · rw [Pg.pairs_len]
          show rs.length * 1 ≤ 1000
          omega
        rw [S'.t.uniq U2.t]
        exact .inl ⟨shaped_tup lay_ent _, shaped_tup lay_ent _, _, rfl, ns _⟩
      simp [Le, List.set]
    walk_at "go"
    rfl
end
/-! ### what the top has written; the end -/
theorem all_mk {l : PySem.W.OpenLaw} {w : World} {K : PySem.W.Frag} {h : Heap} {mg : Str → Option Value} {fa : Addr} (X : K.In h) (G : h.Ns mainGlobals mg) (hfa : mg "law" = some (.ref fa))
    (D0 : Df K mg "is_number" s_p_is_number ["value"])
    (D1 : Df K mg "is_row_of_numbers" s_p_is_row_of_numbers ["value", "many"])
    (D2 : Df K mg "fraction" s_p_fraction ["p", "q"])
    (D3 : Df K mg "is_fraction" s_p_is_fraction ["value"])
    (D4 : Df K mg "common_of" s_p_common_of ["numbers"])
    (D5 : Df K mg "ascending" s_p_ascending ["fractions"])
    (D6 : Df K mg "plus" s_p_plus ["s", "t"])
    (D7 : Df K mg "is_less" s_p_is_less ["s", "t"])
    (D8 : Df K mg "behinds_ahead" s_p_behinds_ahead ["steps"])
    (D9 : Df K mg "in_form" s_p_in_form ["entries"])
    (D10 : Df K mg "is_stretch" s_p_is_stretch ["value"])
    (D11 : Df K mg "steps_of" s_p_steps_of ["rows"])
    (D12 : Df K mg "looks_at" s_p_looks_at ["steps", "height"])
    (D13 : Df K mg "step_sum" s_p_step_sum ["steps"])
    (D14 : Df K mg "added_steps" s_p_added_steps ["one", "other"])
    (D15 : Df K mg "mirrored_steps" s_p_mirrored_steps ["steps"])
    (D16 : Df K mg "stretches" s_p_stretches ["steps"])
    (D17 : Df K mg "put_steps" s_p_put_steps ["one", "other"])
    (D18 : Df K mg "tops_of" s_p_tops_of ["steps"])
    (D19 : Df K mg "_law_open_cells" s_l_open_cells ["_law_script"])
    (D20 : Df K mg "_law_pick" s_l_pick ["_law_source", "_law_most"])
    (D21 : Df K mg "_law_common" s_l_common ["_law_a", "_law_b"])
    (D22 : Df K mg "_law_fraction" s_l_fraction ["_law_p", "_law_q"])
    (D23 : Df K mg "_law_below" s_l_below ["_law_s", "_law_t"])
    (D24 : Df K mg "_law_choice_of" s_l_choice_of ["_law_source", "_law_things"])
    (D25 : Df K mg "_law_ordered" s_l_ordered ["_law_heights"])
    (D26 : Df K mg "_law_value" s_l_value ["_law_rows", "_law_h"])
    (D27 : Df K mg "_law_midway" s_l_midway ["_law_s", "_law_t"])
    (D28 : Df K mg "_law_gaps" s_l_gaps ["_law_heights"])
    (D29 : Df K mg "_law_steps" s_l_steps ["_law_values"])
    (D30 : Df K mg "_law_steps_of" s_l_steps_of ["_law_rows"])
    (D31 : Df K mg "_law_draw_stretches" s_l_draw_stretches ["_law_source", "_law_most"])
    (D32 : Df K mg "_law_plus" s_l_plus ["_law_s", "_law_t"])
    (D33 : Df K mg "_law_shifted" s_l_shifted ["_law_rows", "_law_h"])
    (D34 : Df K mg "_law_moved" s_l_moved ["_law_rows", "_law_others"])
    (D35 : Df K mg "_law_pairs" s_l_pairs ["_law_rows", "_law_others"])
    (D36 : Df K mg "_law_right" s_l_right ["_law_rows", "_law_others", "_law_more"])
    (D37 : Df K mg "_law_ends_right" s_l_ends_right ["_law_one", "_law_other"])
    {f38 : Addr} {od38 an38 : Option Addr} {sl38 : Array (Option Value)} {oc38 kV38 dc38 pm38 cd38 ct38 : Value}
    (a38 : PySem.W.nsIn K mainGlobals "law" = some (some (.ref f38)))
    (l38 : K.lookup f38 = some ⟨oc38, od38, .func (PySem.W.fnOf "law" "law" (defArgs s_law) (defBody s_law) (defScope s_law) .none kV38 dc38 pm38 an38 cd38 ct38), sl38⟩)
    (c38 : PySem.W.codeIn K cd38 "law" = true) (k38 : PySem.W.keepIn K (.ref f38) = true)
    (z_abs : PySem.W.nsIn K mainGlobals "abs" = some none)
    (z_all : PySem.W.nsIn K mainGlobals "all" = some none)
    (z_bool : PySem.W.nsIn K mainGlobals "bool" = some none)
    (z_enumerate : PySem.W.nsIn K mainGlobals "enumerate" = some none)
    (z_int : PySem.W.nsIn K mainGlobals "int" = some none)
    (z_isinstance : PySem.W.nsIn K mainGlobals "isinstance" = some none)
    (z_len : PySem.W.nsIn K mainGlobals "len" = some none)
    (z_list : PySem.W.nsIn K mainGlobals "list" = some none)
    (z_range : PySem.W.nsIn K mainGlobals "range" = some none)
    (z_repr : PySem.W.nsIn K mainGlobals "repr" = some none)
    (z_sorted : PySem.W.nsIn K mainGlobals "sorted" = some none)
    (z_sum : PySem.W.nsIn K mainGlobals "sum" = some none)
    (z_tuple : PySem.W.nsIn K mainGlobals "tuple" = some none)
    (z_zip : PySem.W.nsIn K mainGlobals "zip" = some none)
    (z_gcd : PySem.W.nsIn K mainGlobals "gcd" = some (some (.builtin "math.gcd"))) :
    ∃ fd : FuncData, (∀ (s : Shared) (v : Value), BindsTo s fd ⟨[v], []⟩ [("_law_script", v)]) ∧ ∀ base : Heap, K.In base → base.Ns mainGlobals mg →
      FnG CX0 l.prog w K mg base 8 fa fd ["_law_script"] (spLaw K) := by
  have e := hfa.symm.trans (PySem.W.mg_of X G a38)
  cases e
  have B : Bi K mg := ⟨PySem.W.mg_none_of X G z_abs, PySem.W.mg_none_of X G z_all, PySem.W.mg_none_of X G z_bool, PySem.W.mg_none_of X G z_enumerate, PySem.W.mg_none_of X G z_int, PySem.W.mg_none_of X G z_isinstance, PySem.W.mg_none_of X G z_len, PySem.W.mg_none_of X G z_list, PySem.W.mg_none_of X G z_range, PySem.W.mg_none_of X G z_repr, PySem.W.mg_none_of X G z_sorted, PySem.W.mg_none_of X G z_sum, PySem.W.mg_none_of X G z_tuple, PySem.W.mg_none_of X G z_zip, PySem.W.mg_of X G z_gcd⟩
  have FL := fun_mk (st := s_law) l38 c38 k38
  refine ⟨PySem.W.fnOf "law" "law" (defArgs s_law) (defBody s_law) (defScope s_law) .none kV38 dc38 pm38 an38 cd38 ct38, fun s v => .of_eq rfl, fun base _ _ => ?_⟩
  have C_p_is_number := ok_p_is_number (P := l.prog) (w := w) (base := base) B D0 
  have C_p_fraction := ok_p_fraction (P := l.prog) (w := w) (base := base) B D2 
  have C_p_common_of := ok_p_common_of (P := l.prog) (w := w) (base := base) B D4 
  have C_p_is_less := ok_p_is_less (P := l.prog) (w := w) (base := base) B D7 
  have C_p_behinds_ahead := ok_p_behinds_ahead (P := l.prog) (w := w) (base := base) B D8 
  have C_p_step_sum := ok_p_step_sum (P := l.prog) (w := w) (base := base) B D13 
  have C_p_tops_of := ok_p_tops_of (P := l.prog) (w := w) (base := base) B D18 
  have C_l_open_cells := ok_l_open_cells (P := l.prog) (w := w) (base := base) B D19 
  have C_l_pick := ok_l_pick (P := l.prog) (w := w) (base := base) B D20 
  have C_l_common := ok_l_common (P := l.prog) (w := w) (base := base) B D21 
  have C_l_below := ok_l_below (P := l.prog) (w := w) (base := base) B D23 
  have C_l_steps := ok_l_steps (P := l.prog) (w := w) (base := base) B D29 
  have C_p_is_row_of_numbers := ok_p_is_row_of_numbers (P := l.prog) (w := w) (base := base) B D1 C_p_is_number
  have C_p_ascending := ok_p_ascending (P := l.prog) (w := w) (base := base) B D5 C_p_common_of
  have C_p_plus := ok_p_plus (P := l.prog) (w := w) (base := base) B D6 C_p_fraction
  have C_p_in_form := ok_p_in_form (P := l.prog) (w := w) (base := base) B D9 C_p_behinds_ahead
  have C_p_looks_at := ok_p_looks_at (P := l.prog) (w := w) (base := base) B D12 C_p_is_less
  have C_p_mirrored_steps := ok_p_mirrored_steps (P := l.prog) (w := w) (base := base) B D15 C_p_behinds_ahead
  have C_p_stretches := ok_p_stretches (P := l.prog) (w := w) (base := base) B D16 C_p_behinds_ahead
  have C_l_fraction := ok_l_fraction (P := l.prog) (w := w) (base := base) B D22 C_l_common
  have C_l_choice_of := ok_l_choice_of (P := l.prog) (w := w) (base := base) B D24 C_l_pick
  have C_l_ordered := ok_l_ordered (P := l.prog) (w := w) (base := base) B D25 C_l_below
  have C_l_value := ok_l_value (P := l.prog) (w := w) (base := base) B D26 C_l_below
  have C_p_is_fraction := ok_p_is_fraction (P := l.prog) (w := w) (base := base) B D3 C_p_is_row_of_numbers
  have C_p_added_steps := ok_p_added_steps (P := l.prog) (w := w) (base := base) B D14 C_p_ascending C_p_in_form C_p_looks_at
  have C_l_midway := ok_l_midway (P := l.prog) (w := w) (base := base) B D27 C_l_fraction
  have C_l_draw_stretches := ok_l_draw_stretches (P := l.prog) (w := w) (base := base) B D31 C_l_pick C_l_fraction C_l_choice_of C_l_below
  have C_l_plus := ok_l_plus (P := l.prog) (w := w) (base := base) B D32 C_l_fraction
  have C_p_is_stretch := ok_p_is_stretch (P := l.prog) (w := w) (base := base) B D10 C_p_is_number C_p_is_fraction C_p_is_less
  have C_l_gaps := ok_l_gaps (P := l.prog) (w := w) (base := base) B D28 C_l_midway C_l_fraction
  have C_l_shifted := ok_l_shifted (P := l.prog) (w := w) (base := base) B D33 C_l_plus
  have C_l_pairs := ok_l_pairs (P := l.prog) (w := w) (base := base) B D35 C_l_plus
  have C_p_steps_of := ok_p_steps_of (P := l.prog) (w := w) (base := base) B D11 C_p_ascending C_p_in_form C_p_is_stretch
  have C_l_steps_of := ok_l_steps_of (P := l.prog) (w := w) (base := base) B D30 C_l_ordered C_l_steps C_l_value C_l_gaps
  have C_l_moved := ok_l_moved (P := l.prog) (w := w) (base := base) B D34 C_l_shifted
  have C_p_put_steps := ok_p_put_steps (P := l.prog) (w := w) (base := base) B D17 C_p_stretches C_p_steps_of C_p_plus
  have C_l_right := ok_l_right (P := l.prog) (w := w) (base := base) B D36 C_p_put_steps C_l_steps_of C_p_added_steps C_p_mirrored_steps C_p_step_sum C_l_pairs
  have C_l_ends_right := ok_l_ends_right (P := l.prog) (w := w) (base := base) B D37 C_p_tops_of C_l_plus C_p_put_steps
  exact ok_law B FL C_l_open_cells C_l_steps_of C_l_draw_stretches C_p_put_steps C_l_right C_l_ends_right C_l_shifted C_l_moved
end Qk35
open PySem PySem.W PyProof.Rows
set_option maxHeartbeats 0 in
theorem PySem.Challenge.cw_plateheaps_k35_steps_put_together_holds : PySem.Challenge.rw_plateheaps_k35_steps_put_together.Holds := by
  w_on; o_law; k_head; (case hw => w_witness2)
  k_fill
  refine Pg.walk_end (l := PySem.Challenge.rw_plateheaps_k35_steps_put_together) (n := 63) (k := 8) (x := "_law_script") (sp := fun w => Pg.spLaw _) rfl (by decide) rfl ⟨rfl, by decide, by decide⟩ (fun w h Y => PySem.W.kIn_of Y) ?F (fun _ _ a ns hl _ hS => ⟨a, ns, rfl, hS, hl, fun _ => rfl⟩)
  case F =>
    intro w mg fa h KX G hmg
    have D0 : Pg.Df (Qk35.kOf KX) mg "is_number" Qk35.s_p_is_number ["value"] := by
      refine' Pg.df_mk (st := Qk35.s_p_is_number) (ps := ["value"]) KX G ?a ?l ?c ?k (fun _ _ _ _ _ _ us hl => match us, hl with | [_], _ => rfl)
      (case a => dsimp only [Qk35.kOf]; k_is); (case l => dsimp only [Qk35.kOf]; k_is); (case c => dsimp only [Qk35.kOf]; k_is); (case k => dsimp only [Qk35.kOf]; k_is)
    have D1 : Pg.Df (Qk35.kOf KX) mg "is_row_of_numbers" Qk35.s_p_is_row_of_numbers ["value", "many"] := by
      refine' Pg.df_mk (st := Qk35.s_p_is_row_of_numbers) (ps := ["value", "many"]) KX G ?a ?l ?c ?k (fun _ _ _ _ _ _ us hl => match us, hl with | [_, _], _ => rfl)
      (case a => dsimp only [Qk35.kOf]; k_is); (case l => dsimp only [Qk35.kOf]; k_is); (case c => dsimp only [Qk35.kOf]; k_is); (case k => dsimp only [Qk35.kOf]; k_is)
    have D2 : Pg.Df (Qk35.kOf KX) mg "fraction" Qk35.s_p_fraction ["p", "q"] := by
      refine' Pg.df_mk (st := Qk35.s_p_fraction) (ps := ["p", "q"]) KX G ?a ?l ?c ?k (fun _ _ _ _ _ _ us hl => match us, hl with | [_, _], _ => rfl)
      (case a => dsimp only [Qk35.kOf]; k_is); (case l => dsimp only [Qk35.kOf]; k_is); (case c => dsimp only [Qk35.kOf]; k_is); (case k => dsimp only [Qk35.kOf]; k_is)
    have D3 : Pg.Df (Qk35.kOf KX) mg "is_fraction" Qk35.s_p_is_fraction ["value"] := by
      refine' Pg.df_mk (st := Qk35.s_p_is_fraction) (ps := ["value"]) KX G ?a ?l ?c ?k (fun _ _ _ _ _ _ us hl => match us, hl with | [_], _ => rfl)
      (case a => dsimp only [Qk35.kOf]; k_is); (case l => dsimp only [Qk35.kOf]; k_is); (case c => dsimp only [Qk35.kOf]; k_is); (case k => dsimp only [Qk35.kOf]; k_is)
    have D4 : Pg.Df (Qk35.kOf KX) mg "common_of" Qk35.s_p_common_of ["numbers"] := by
      refine' Pg.df_mk (st := Qk35.s_p_common_of) (ps := ["numbers"]) KX G ?a ?l ?c ?k (fun _ _ _ _ _ _ us hl => match us, hl with | [_], _ => rfl)
      (case a => dsimp only [Qk35.kOf]; k_is); (case l => dsimp only [Qk35.kOf]; k_is); (case c => dsimp only [Qk35.kOf]; k_is); (case k => dsimp only [Qk35.kOf]; k_is)
    have D5 : Pg.Df (Qk35.kOf KX) mg "ascending" Qk35.s_p_ascending ["fractions"] := by
      refine' Pg.df_mk (st := Qk35.s_p_ascending) (ps := ["fractions"]) KX G ?a ?l ?c ?k (fun _ _ _ _ _ _ us hl => match us, hl with | [_], _ => rfl)
      (case a => dsimp only [Qk35.kOf]; k_is); (case l => dsimp only [Qk35.kOf]; k_is); (case c => dsimp only [Qk35.kOf]; k_is); (case k => dsimp only [Qk35.kOf]; k_is)
    have D6 : Pg.Df (Qk35.kOf KX) mg "plus" Qk35.s_p_plus ["s", "t"] := by
      refine' Pg.df_mk (st := Qk35.s_p_plus) (ps := ["s", "t"]) KX G ?a ?l ?c ?k (fun _ _ _ _ _ _ us hl => match us, hl with | [_, _], _ => rfl)
      (case a => dsimp only [Qk35.kOf]; k_is); (case l => dsimp only [Qk35.kOf]; k_is); (case c => dsimp only [Qk35.kOf]; k_is); (case k => dsimp only [Qk35.kOf]; k_is)
    have D7 : Pg.Df (Qk35.kOf KX) mg "is_less" Qk35.s_p_is_less ["s", "t"] := by
      refine' Pg.df_mk (st := Qk35.s_p_is_less) (ps := ["s", "t"]) KX G ?a ?l ?c ?k (fun _ _ _ _ _ _ us hl => match us, hl with | [_, _], _ => rfl)
      (case a => dsimp only [Qk35.kOf]; k_is); (case l => dsimp only [Qk35.kOf]; k_is); (case c => dsimp only [Qk35.kOf]; k_is); (case k => dsimp only [Qk35.kOf]; k_is)
    have D8 : Pg.Df (Qk35.kOf KX) mg "behinds_ahead" Qk35.s_p_behinds_ahead ["steps"] := by
      refine' Pg.df_mk (st := Qk35.s_p_behinds_ahead) (ps := ["steps"]) KX G ?a ?l ?c ?k (fun _ _ _ _ _ _ us hl => match us, hl with | [_], _ => rfl)
      (case a => dsimp only [Qk35.kOf]; k_is); (case l => dsimp only [Qk35.kOf]; k_is); (case c => dsimp only [Qk35.kOf]; k_is); (case k => dsimp only [Qk35.kOf]; k_is)
    have D9 : Pg.Df (Qk35.kOf KX) mg "in_form" Qk35.s_p_in_form ["entries"] := by
      refine' Pg.df_mk (st := Qk35.s_p_in_form) (ps := ["entries"]) KX G ?a ?l ?c ?k (fun _ _ _ _ _ _ us hl => match us, hl with | [_], _ => rfl)
      (case a => dsimp only [Qk35.kOf]; k_is); (case l => dsimp only [Qk35.kOf]; k_is); (case c => dsimp only [Qk35.kOf]; k_is); (case k => dsimp only [Qk35.kOf]; k_is)
    have D10 : Pg.Df (Qk35.kOf KX) mg "is_stretch" Qk35.s_p_is_stretch ["value"] := by
      refine' Pg.df_mk (st := Qk35.s_p_is_stretch) (ps := ["value"]) KX G ?a ?l ?c ?k (fun _ _ _ _ _ _ us hl => match us, hl with | [_], _ => rfl)
      (case a => dsimp only [Qk35.kOf]; k_is); (case l => dsimp only [Qk35.kOf]; k_is); (case c => dsimp only [Qk35.kOf]; k_is); (case k => dsimp only [Qk35.kOf]; k_is)
    have D11 : Pg.Df (Qk35.kOf KX) mg "steps_of" Qk35.s_p_steps_of ["rows"] := by
      refine' Pg.df_mk (st := Qk35.s_p_steps_of) (ps := ["rows"]) KX G ?a ?l ?c ?k (fun _ _ _ _ _ _ us hl => match us, hl with | [_], _ => rfl)
      (case a => dsimp only [Qk35.kOf]; k_is); (case l => dsimp only [Qk35.kOf]; k_is); (case c => dsimp only [Qk35.kOf]; k_is); (case k => dsimp only [Qk35.kOf]; k_is)
    have D12 : Pg.Df (Qk35.kOf KX) mg "looks_at" Qk35.s_p_looks_at ["steps", "height"] := by
      refine' Pg.df_mk (st := Qk35.s_p_looks_at) (ps := ["steps", "height"]) KX G ?a ?l ?c ?k (fun _ _ _ _ _ _ us hl => match us, hl with | [_, _], _ => rfl)
      (case a => dsimp only [Qk35.kOf]; k_is); (case l => dsimp only [Qk35.kOf]; k_is); (case c => dsimp only [Qk35.kOf]; k_is); (case k => dsimp only [Qk35.kOf]; k_is)
    have D13 : Pg.Df (Qk35.kOf KX) mg "step_sum" Qk35.s_p_step_sum ["steps"] := by
      refine' Pg.df_mk (st := Qk35.s_p_step_sum) (ps := ["steps"]) KX G ?a ?l ?c ?k (fun _ _ _ _ _ _ us hl => match us, hl with | [_], _ => rfl)
      (case a => dsimp only [Qk35.kOf]; k_is); (case l => dsimp only [Qk35.kOf]; k_is); (case c => dsimp only [Qk35.kOf]; k_is); (case k => dsimp only [Qk35.kOf]; k_is)
    have D14 : Pg.Df (Qk35.kOf KX) mg "added_steps" Qk35.s_p_added_steps ["one", "other"] := by
      refine' Pg.df_mk (st := Qk35.s_p_added_steps) (ps := ["one", "other"]) KX G ?a ?l ?c ?k (fun _ _ _ _ _ _ us hl => match us, hl with | [_, _], _ => rfl)
      (case a => dsimp only [Qk35.kOf]; k_is); (case l => dsimp only [Qk35.kOf]; k_is); (case c => dsimp only [Qk35.kOf]; k_is); (case k => dsimp only [Qk35.kOf]; k_is)
    have D15 : Pg.Df (Qk35.kOf KX) mg "mirrored_steps" Qk35.s_p_mirrored_steps ["steps"] := by
      refine' Pg.df_mk (st := Qk35.s_p_mirrored_steps) (ps := ["steps"]) KX G ?a ?l ?c ?k (fun _ _ _ _ _ _ us hl => match us, hl with | [_], _ => rfl)
      (case a => dsimp only [Qk35.kOf]; k_is); (case l => dsimp only [Qk35.kOf]; k_is); (case c => dsimp only [Qk35.kOf]; k_is); (case k => dsimp only [Qk35.kOf]; k_is)
    have D16 : Pg.Df (Qk35.kOf KX) mg "stretches" Qk35.s_p_stretches ["steps"] := by
      refine' Pg.df_mk (st := Qk35.s_p_stretches) (ps := ["steps"]) KX G ?a ?l ?c ?k (fun _ _ _ _ _ _ us hl => match us, hl with | [_], _ => rfl)
      (case a => dsimp only [Qk35.kOf]; k_is); (case l => dsimp only [Qk35.kOf]; k_is); (case c => dsimp only [Qk35.kOf]; k_is); (case k => dsimp only [Qk35.kOf]; k_is)
    have D17 : Pg.Df (Qk35.kOf KX) mg "put_steps" Qk35.s_p_put_steps ["one", "other"] := by
      refine' Pg.df_mk (st := Qk35.s_p_put_steps) (ps := ["one", "other"]) KX G ?a ?l ?c ?k (fun _ _ _ _ _ _ us hl => match us, hl with | [_, _], _ => rfl)
      (case a => dsimp only [Qk35.kOf]; k_is); (case l => dsimp only [Qk35.kOf]; k_is); (case c => dsimp only [Qk35.kOf]; k_is); (case k => dsimp only [Qk35.kOf]; k_is)
    have D18 : Pg.Df (Qk35.kOf KX) mg "tops_of" Qk35.s_p_tops_of ["steps"] := by
      refine' Pg.df_mk (st := Qk35.s_p_tops_of) (ps := ["steps"]) KX G ?a ?l ?c ?k (fun _ _ _ _ _ _ us hl => match us, hl with | [_], _ => rfl)
      (case a => dsimp only [Qk35.kOf]; k_is); (case l => dsimp only [Qk35.kOf]; k_is); (case c => dsimp only [Qk35.kOf]; k_is); (case k => dsimp only [Qk35.kOf]; k_is)
    have D19 : Pg.Df (Qk35.kOf KX) mg "_law_open_cells" Qk35.s_l_open_cells ["_law_script"] := by
      refine' Pg.df_mk (st := Qk35.s_l_open_cells) (ps := ["_law_script"]) KX G ?a ?l ?c ?k (fun _ _ _ _ _ _ us hl => match us, hl with | [_], _ => rfl)
      (case a => dsimp only [Qk35.kOf]; k_is); (case l => dsimp only [Qk35.kOf]; k_is); (case c => dsimp only [Qk35.kOf]; k_is); (case k => dsimp only [Qk35.kOf]; k_is)
    have D20 : Pg.Df (Qk35.kOf KX) mg "_law_pick" Qk35.s_l_pick ["_law_source", "_law_most"] := by
      refine' Pg.df_mk (st := Qk35.s_l_pick) (ps := ["_law_source", "_law_most"]) KX G ?a ?l ?c ?k (fun _ _ _ _ _ _ us hl => match us, hl with | [_, _], _ => rfl)
      (case a => dsimp only [Qk35.kOf]; k_is); (case l => dsimp only [Qk35.kOf]; k_is); (case c => dsimp only [Qk35.kOf]; k_is); (case k => dsimp only [Qk35.kOf]; k_is)
    have D21 : Pg.Df (Qk35.kOf KX) mg "_law_common" Qk35.s_l_common ["_law_a", "_law_b"] := by
      refine' Pg.df_mk (st := Qk35.s_l_common) (ps := ["_law_a", "_law_b"]) KX G ?a ?l ?c ?k (fun _ _ _ _ _ _ us hl => match us, hl with | [_, _], _ => rfl)
      (case a => dsimp only [Qk35.kOf]; k_is); (case l => dsimp only [Qk35.kOf]; k_is); (case c => dsimp only [Qk35.kOf]; k_is); (case k => dsimp only [Qk35.kOf]; k_is)
    have D22 : Pg.Df (Qk35.kOf KX) mg "_law_fraction" Qk35.s_l_fraction ["_law_p", "_law_q"] := by
      refine' Pg.df_mk (st := Qk35.s_l_fraction) (ps := ["_law_p", "_law_q"]) KX G ?a ?l ?c ?k (fun _ _ _ _ _ _ us hl => match us, hl with | [_, _], _ => rfl)
      (case a => dsimp only [Qk35.kOf]; k_is); (case l => dsimp only [Qk35.kOf]; k_is); (case c => dsimp only [Qk35.kOf]; k_is); (case k => dsimp only [Qk35.kOf]; k_is)
    have D23 : Pg.Df (Qk35.kOf KX) mg "_law_below" Qk35.s_l_below ["_law_s", "_law_t"] := by
      refine' Pg.df_mk (st := Qk35.s_l_below) (ps := ["_law_s", "_law_t"]) KX G ?a ?l ?c ?k (fun _ _ _ _ _ _ us hl => match us, hl with | [_, _], _ => rfl)
      (case a => dsimp only [Qk35.kOf]; k_is); (case l => dsimp only [Qk35.kOf]; k_is); (case c => dsimp only [Qk35.kOf]; k_is); (case k => dsimp only [Qk35.kOf]; k_is)
    have D24 : Pg.Df (Qk35.kOf KX) mg "_law_choice_of" Qk35.s_l_choice_of ["_law_source", "_law_things"] := by
      refine' Pg.df_mk (st := Qk35.s_l_choice_of) (ps := ["_law_source", "_law_things"]) KX G ?a ?l ?c ?k (fun _ _ _ _ _ _ us hl => match us, hl with | [_, _], _ => rfl)
      (case a => dsimp only [Qk35.kOf]; k_is); (case l => dsimp only [Qk35.kOf]; k_is); (case c => dsimp only [Qk35.kOf]; k_is); (case k => dsimp only [Qk35.kOf]; k_is)
    have D25 : Pg.Df (Qk35.kOf KX) mg "_law_ordered" Qk35.s_l_ordered ["_law_heights"] := by
      refine' Pg.df_mk (st := Qk35.s_l_ordered) (ps := ["_law_heights"]) KX G ?a ?l ?c ?k (fun _ _ _ _ _ _ us hl => match us, hl with | [_], _ => rfl)
      (case a => dsimp only [Qk35.kOf]; k_is); (case l => dsimp only [Qk35.kOf]; k_is); (case c => dsimp only [Qk35.kOf]; k_is); (case k => dsimp only [Qk35.kOf]; k_is)
    have D26 : Pg.Df (Qk35.kOf KX) mg "_law_value" Qk35.s_l_value ["_law_rows", "_law_h"] := by
      refine' Pg.df_mk (st := Qk35.s_l_value) (ps := ["_law_rows", "_law_h"]) KX G ?a ?l ?c ?k (fun _ _ _ _ _ _ us hl => match us, hl with | [_, _], _ => rfl)
      (case a => dsimp only [Qk35.kOf]; k_is); (case l => dsimp only [Qk35.kOf]; k_is); (case c => dsimp only [Qk35.kOf]; k_is); (case k => dsimp only [Qk35.kOf]; k_is)
    have D27 : Pg.Df (Qk35.kOf KX) mg "_law_midway" Qk35.s_l_midway ["_law_s", "_law_t"] := by
      refine' Pg.df_mk (st := Qk35.s_l_midway) (ps := ["_law_s", "_law_t"]) KX G ?a ?l ?c ?k (fun _ _ _ _ _ _ us hl => match us, hl with | [_, _], _ => rfl)
      (case a => dsimp only [Qk35.kOf]; k_is); (case l => dsimp only [Qk35.kOf]; k_is); (case c => dsimp only [Qk35.kOf]; k_is); (case k => dsimp only [Qk35.kOf]; k_is)
    have D28 : Pg.Df (Qk35.kOf KX) mg "_law_gaps" Qk35.s_l_gaps ["_law_heights"] := by
      refine' Pg.df_mk (st := Qk35.s_l_gaps) (ps := ["_law_heights"]) KX G ?a ?l ?c ?k (fun _ _ _ _ _ _ us hl => match us, hl with | [_], _ => rfl)
      (case a => dsimp only [Qk35.kOf]; k_is); (case l => dsimp only [Qk35.kOf]; k_is); (case c => dsimp only [Qk35.kOf]; k_is); (case k => dsimp only [Qk35.kOf]; k_is)
    have D29 : Pg.Df (Qk35.kOf KX) mg "_law_steps" Qk35.s_l_steps ["_law_values"] := by
      refine' Pg.df_mk (st := Qk35.s_l_steps) (ps := ["_law_values"]) KX G ?a ?l ?c ?k (fun _ _ _ _ _ _ us hl => match us, hl with | [_], _ => rfl)
      (case a => dsimp only [Qk35.kOf]; k_is); (case l => dsimp only [Qk35.kOf]; k_is); (case c => dsimp only [Qk35.kOf]; k_is); (case k => dsimp only [Qk35.kOf]; k_is)
    have D30 : Pg.Df (Qk35.kOf KX) mg "_law_steps_of" Qk35.s_l_steps_of ["_law_rows"] := by
      refine' Pg.df_mk (st := Qk35.s_l_steps_of) (ps := ["_law_rows"]) KX G ?a ?l ?c ?k (fun _ _ _ _ _ _ us hl => match us, hl with | [_], _ => rfl)
      (case a => dsimp only [Qk35.kOf]; k_is); (case l => dsimp only [Qk35.kOf]; k_is); (case c => dsimp only [Qk35.kOf]; k_is); (case k => dsimp only [Qk35.kOf]; k_is)
    have D31 : Pg.Df (Qk35.kOf KX) mg "_law_draw_stretches" Qk35.s_l_draw_stretches ["_law_source", "_law_most"] := by
      refine' Pg.df_mk (st := Qk35.s_l_draw_stretches) (ps := ["_law_source", "_law_most"]) KX G ?a ?l ?c ?k (fun _ _ _ _ _ _ us hl => match us, hl with | [_, _], _ => rfl)
      (case a => dsimp only [Qk35.kOf]; k_is); (case l => dsimp only [Qk35.kOf]; k_is); (case c => dsimp only [Qk35.kOf]; k_is); (case k => dsimp only [Qk35.kOf]; k_is)
    have D32 : Pg.Df (Qk35.kOf KX) mg "_law_plus" Qk35.s_l_plus ["_law_s", "_law_t"] := by
      refine' Pg.df_mk (st := Qk35.s_l_plus) (ps := ["_law_s", "_law_t"]) KX G ?a ?l ?c ?k (fun _ _ _ _ _ _ us hl => match us, hl with | [_, _], _ => rfl)
      (case a => dsimp only [Qk35.kOf]; k_is); (case l => dsimp only [Qk35.kOf]; k_is); (case c => dsimp only [Qk35.kOf]; k_is); (case k => dsimp only [Qk35.kOf]; k_is)
    have D33 : Pg.Df (Qk35.kOf KX) mg "_law_shifted" Qk35.s_l_shifted ["_law_rows", "_law_h"] := by
      refine' Pg.df_mk (st := Qk35.s_l_shifted) (ps := ["_law_rows", "_law_h"]) KX G ?a ?l ?c ?k (fun _ _ _ _ _ _ us hl => match us, hl with | [_, _], _ => rfl)
      (case a => dsimp only [Qk35.kOf]; k_is); (case l => dsimp only [Qk35.kOf]; k_is); (case c => dsimp only [Qk35.kOf]; k_is); (case k => dsimp only [Qk35.kOf]; k_is)
    have D34 : Pg.Df (Qk35.kOf KX) mg "_law_moved" Qk35.s_l_moved ["_law_rows", "_law_others"] := by
      refine' Pg.df_mk (st := Qk35.s_l_moved) (ps := ["_law_rows", "_law_others"]) KX G ?a ?l ?c ?k (fun _ _ _ _ _ _ us hl => match us, hl with | [_, _], _ => rfl)
      (case a => dsimp only [Qk35.kOf]; k_is); (case l => dsimp only [Qk35.kOf]; k_is); (case c => dsimp only [Qk35.kOf]; k_is); (case k => dsimp only [Qk35.kOf]; k_is)
    have D35 : Pg.Df (Qk35.kOf KX) mg "_law_pairs" Qk35.s_l_pairs ["_law_rows", "_law_others"] := by
      refine' Pg.df_mk (st := Qk35.s_l_pairs) (ps := ["_law_rows", "_law_others"]) KX G ?a ?l ?c ?k (fun _ _ _ _ _ _ us hl => match us, hl with | [_, _], _ => rfl)
      (case a => dsimp only [Qk35.kOf]; k_is); (case l => dsimp only [Qk35.kOf]; k_is); (case c => dsimp only [Qk35.kOf]; k_is); (case k => dsimp only [Qk35.kOf]; k_is)
    have D36 : Pg.Df (Qk35.kOf KX) mg "_law_right" Qk35.s_l_right ["_law_rows", "_law_others", "_law_more"] := by
      refine' Pg.df_mk (st := Qk35.s_l_right) (ps := ["_law_rows", "_law_others", "_law_more"]) KX G ?a ?l ?c ?k (fun _ _ _ _ _ _ us hl => match us, hl with | [_, _, _], _ => rfl)
      (case a => dsimp only [Qk35.kOf]; k_is); (case l => dsimp only [Qk35.kOf]; k_is); (case c => dsimp only [Qk35.kOf]; k_is); (case k => dsimp only [Qk35.kOf]; k_is)
    have D37 : Pg.Df (Qk35.kOf KX) mg "_law_ends_right" Qk35.s_l_ends_right ["_law_one", "_law_other"] := by
      refine' Pg.df_mk (st := Qk35.s_l_ends_right) (ps := ["_law_one", "_law_other"]) KX G ?a ?l ?c ?k (fun _ _ _ _ _ _ us hl => match us, hl with | [_, _], _ => rfl)
      (case a => dsimp only [Qk35.kOf]; k_is); (case l => dsimp only [Qk35.kOf]; k_is); (case c => dsimp only [Qk35.kOf]; k_is); (case k => dsimp only [Qk35.kOf]; k_is)
    refine' Qk35.all_mk KX G hmg (D0 := D0) (D1 := D1) (D2 := D2) (D3 := D3) (D4 := D4) (D5 := D5) (D6 := D6) (D7 := D7) (D8 := D8) (D9 := D9) (D10 := D10) (D11 := D11) (D12 := D12) (D13 := D13) (D14 := D14) (D15 := D15) (D16 := D16) (D17 := D17) (D18 := D18) (D19 := D19) (D20 := D20) (D21 := D21) (D22 := D22) (D23 := D23) (D24 := D24) (D25 := D25) (D26 := D26) (D27 := D27) (D28 := D28) (D29 := D29) (D30 := D30) (D31 := D31) (D32 := D32) (D33 := D33) (D34 := D34) (D35 := D35) (D36 := D36) (D37 := D37) (a38 := ?a38) (l38 := ?l38) (c38 := ?c38) (k38 := ?k38) (z_abs := ?z_abs) (z_all := ?z_all) (z_bool := ?z_bool) (z_enumerate := ?z_enumerate) (z_int := ?z_int) (z_isinstance := ?z_isinstance) (z_len := ?z_len) (z_list := ?z_list) (z_range := ?z_range) (z_repr := ?z_repr) (z_sorted := ?z_sorted) (z_sum := ?z_sum) (z_tuple := ?z_tuple) (z_zip := ?z_zip) (z_gcd := ?z_gcd)
    (case a38 => k_is); (case l38 => k_is); (case c38 => k_is); (case k38 => k_is); (case z_abs => k_is); (case z_all => k_is); (case z_bool => k_is); (case z_enumerate => k_is); (case z_int => k_is); (case z_isinstance => k_is); (case z_len => k_is); (case z_list => k_is); (case z_range => k_is); (case z_repr => k_is); (case z_sorted => k_is); (case z_sum => k_is); (case z_tuple => k_is); (case z_zip => k_is); (case z_gcd => k_is)
