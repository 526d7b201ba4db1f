import PyProof.Rows.All
import Wide.All
import OpenK.AllK
import Wide.FinOn
import HandS.ForMost
import HandS.Gcd
import HandS.IsInst
import HandS.Wide
import HandS.Flow
import HandS.Style
import PySem.Challenge.RW_plateheaps_k85_ladders
set_option Elab.async false
set_option linter.all false
set_option maxRecDepth 100000
set_option maxHeartbeats 4000000
/-! Pg0: a def's promise kept where no display of a value is under way (so that repr is told), calls of such defs, the end of a law. -/
namespace Pg
open PySem PySem.Spec PyProof.Rows L2

/-- a def's promise, for calls with no guard on the stack -/
structure FnG (CX : CXT) (P : Program) (w : World) (K : PySem.W.Frag) (mg : Str → Option Value) (base : Heap)
    (k : Nat) (f : Addr) (fd : FuncData) (ps : List Str) (sp : Sp) : Prop where
  arity : ∀ vs H Q E, sp vs H Q E → vs.length = ps.length
  runs : ∀ (A : Around) (outer : List Env) (s : Shared) (H : Hp) (args : Args)
    (us : List Value) (vs : List V) (Q : VK) (E : XK), A.guards = some [] → Room k A →
    Env0 P w K mg base A outer s H → BindsTo s fd args (ps.zip us) → Vals vs us → sp vs H Q E →
    codeAny (model P w) A (.call (.ref f) args) (CR CX outer P w H s Q E) s

theorem FnG.of_body {CX : CXT} {P : Program} {w : World} {K : PySem.W.Frag} {mg : Str → Option Value} {base : Heap}
    {k : Nat} {f : Addr} {x q : Str} {pa : Arguments} {body : List Stmt} {sc : Scope}
    {oc kV dc pm cdv ct : Value} {an od : Option Addr} {sl : Array (Option Value)} {N ps : List Str} {sp : Sp}
    (lk : K.lookup f = some ⟨oc, od, .func (PySem.W.fnOf x q pa body sc .none kV dc pm an cdv ct), sl⟩)
    (hc : PySem.W.codeIn K cdv q = true) (S : FnScope N ps sc) (ar : ∀ vs H Q E, sp vs H Q E → vs.length = ps.length)
    (main : ∀ (A : Around) (outer : List Env) (s : Shared) (H : Hp) (vs : List V) (Q : VK) (E : XK), A.guards = some [] →
      Room k (A.deeper (envOfC q sc s.heap.objs.size f cdv)) → sp vs H Q E →
      ∃ t, PSs (cxOf CX P w K mg base N q sc f cdv A outer s H E) body t ∧
        t { nx := fun _ h => Q .non h, rt := Q } (start N vs) H) :
    FnG CX P w K mg base (k + 1) f (PySem.W.fnOf x q pa body sc .none kV dc pm an cdv ct) ps sp := by
  constructor
  · exact ar
  intro A outer s H args us vs Q E gd rm env bnd rel spq
  have n1 := ar _ _ _ _ spq
  have stay : ∀ b o, base.get? b = some o → s.heap.get? b = some o := fun b o e => (env.bs b o e).1
  have kin := env.mod.kin.keeps stay
  have lim := env.mod.nolimit.keeps stay
  obtain ⟨t, pt, qt⟩ := main A outer s H vs Q E gd (rm.deeper _) spq
  refine codeAny_call_function rm.depth (kin _ _ lk) rfl S.co S.gen rfl (PySem.W.codeRec_of kin hc) (bnd _ _ _ _ ?_)
  refine wpAny_newFunctionEnv_cells S.kind ?_ ?_
  · rintro ⟨n, v⟩ mem
    cases S.par n (List.of_mem_zip mem).1 with
    | inl z => exact .inl z
    | inr z => exact .inr ⟨z, PySem.W.cellsFrom_some _ _ _ (.inl z)⟩
  · intro env' ee s1 inC
    subst ee
    refine ⟨lim.keeps inC.toInCall.keep, codeAny_func ?_⟩
    have I := inv_start (CX := CX) (mg := mg) (base := base) (E := E) S rm.hd env n1 rel inC
    refine wpAny_mono (pt.run [] s1 (start N vs) H _ I qt) ?_ (fun _ _ z => z)
    intro fl s' out
    cases fl with
    | next =>
      obtain ⟨_, H', J, z⟩ := out
      exact ⟨V.non, H', J.os, J.bare, J.base, J.hok, rfl, z⟩
    | ret u =>
      obtain ⟨v, _, H', J, rv, z⟩ := out
      exact ⟨v, H', J.os, J.bare, J.base, J.hok, rv, z⟩
    | brk => exact out.elim fun _ z => z.elim fun _ z => z.2.elim
    | cont => exact out.elim fun _ z => z.elim fun _ z => z.2.elim

/-- the rule for a def of the text that lets no exception out -/
theorem FnG.of_fun {P : Program} {w : World} {K : PySem.W.Frag} {mg : Str → Option Value} {base : Heap}
    {x q : Str} {st : Stmt} {f : Addr} {fd : FuncData} {N ps : List Str} {k : Nat} {sp : Sp}
    (F : Fun K x q st f fd) (S : FnScope N ps (defScope st)) (ar : ∀ vs H Q E, sp vs H Q E → vs.length = ps.length)
    (main : ∀ (cdv : Value) (A : Around) (outer : List Env) (s : Shared) (H : Hp) (vs : List V) (Q : VK) (E : XK),
      A.guards = some [] → Room k (A.deeper (envOfC q (defScope st) s.heap.objs.size f cdv)) → sp vs H Q E →
      ∃ t, PSs (cxOf CX0 P w K mg base N q (defScope st) f cdv A outer s H E).nox (defBody st) t ∧
        t { nx := fun _ h => Q .non h, rt := Q } (start N vs) H) : FnG CX0 P w K mg base (k + 1) f fd ps sp := by
  obtain ⟨_, _, _, _, _, _, cdv, _, _, rfl, lk, hcd⟩ := F.ex
  refine FnG.of_body lk hcd S ar ?_
  intro A outer s H vs Q E gd rm z
  obtain ⟨t, a, b⟩ := main cdv A outer s H vs Q E gd rm z
  exact ⟨t, a.nox, b⟩

/-- a def of the module that may be called by its name: its promise and what a call of it needs -/
structure Cal (P : Program) (w : World) (K : PySem.W.Frag) (mg : Str → Option Value) (base : Heap)
    (k : Nat) (x : Str) (ps : List Str) (sp : Sp) : Prop where
  ex : ∃ (f : Addr) (fd : FuncData), FnG CX0 P w K mg base k f fd ps sp ∧ mg x = some (.ref f) ∧
    PySem.W.keepIn K (.ref f) = true ∧ Binds K fd ps []

section
variable {X : Cx} {k : Nat} {x : Str} {ps : List Str} {sp : Sp} {p pos : Pos} {e : Expr} {es : List Expr} {t : TA}
/-- a call: the arguments, then the promise -/
def tGo (sp : Sp) (t : TA) : TE := fun σ H Q => t σ H fun vs H1 => sp vs H1 Q E0

theorem Cal.run (C : Cal X.prog X.w X.K X.mg X.base k x ps sp) (hr : Room k X.A) (gd : X.A.guards = some []) :
    ∃ f : Addr, X.mg x = some (.ref f) ∧ PySem.W.keepIn X.K (.ref f) = true ∧
      ∀ (pins : List (Addr × Obj)) (σ : L2.St) (H : Hp) (s : Shared) (Q : VK) (us : List Value) (vs : List V),
        Inv X pins σ H s → Vals vs us → sp vs H Q E0 →
        wpAny (model X.prog X.w) X.A (call (.ref f) us) (EP X pins σ Q) X.xe s := by
  obtain ⟨f, fd, F, hm, hk, hb⟩ := C.ex
  refine ⟨f, hm, hk, ?_⟩
  intro pins σ H s Q us vs I r h
  have n1 : us.length = ps.length := by
    rw [← r.length]
    exact F.arity _ _ _ _ h
  have b1 := hb s us I.kIn (by simpa using n1)
  rw [List.append_nil] at b1
  refine wpAny_call (codeAny_mono (F.runs X.A X.stack s H ⟨us, []⟩ us vs Q E0 gd hr I.env0 b1 r h) ?_)
  intro res s' out
  match res, out with
  | .ok (.ret u), out => exact I.after out
  | .ok .next, out => exact False.elim out
  | .ok .brk, out => exact False.elim out
  | .ok .cont, out => exact False.elim out
  | .error _, out => exact False.elim out

theorem pe_c (C : Cal X.prog X.w X.K X.mg X.base k x ps sp) (hr : Room k X.A) (gd : X.A.guards = some []) (hg : Gl X x)
    (ha : PA X (e :: es) t) (hdb : (x == ("__debug__" : Str)) = false := by decide)
    (he : starEach (e :: es) X.env = (false, eval e X.env) :: starEach es X.env := by rfl)
    (hpl : (backTo pos (starEach es X.env)).any (·.1) = false := by rfl) :
    PE X (.Call (.Name x p) (e :: es) [] pos) (tGo sp t) := by
  obtain ⟨f, hm, hk, run⟩ := C.run hr gd
  constructor
  intro pins s σ H Q I h
  apply wpAny_Call_Name_kw
  refine ld_glob I hg hm ?_ hdb
  refine PySem.W.callWith_K (h₀ := X.base) I.ok.mod.kin hk (thn (ha.run pos pins s σ H _ I h) ?_) he hpl
  rintro us s1 ⟨vs, H1, I1, r, q⟩
  exact ⟨I1.kIn, run pins σ H1 s1 Q us vs I1 r q⟩
end

/-! ### the end of a law -/
/-- what is tracked at the law's entry: the script alone, if the top does not own it -/
def entryHp (K : PySem.W.Frag) (a : Addr) (vs : List Value) (ns : List Int) : Hp := fun b =>
  if b = a ∧ K.lookup a = none then some (.frz { cls := .type "list", data := .seq vs.toArray } (.lst (ns.map V.int))) else none

theorem law_end {P : Program} {w : World} {K : PySem.W.Frag} {mg mb : Str → Option Value} {k : Nat} {fa a : Addr}
    {fd : FuncData} {x : Str} {sp : Sp} {s₁ : Shared} {vs : List Value} {ns : List Int}
    (kin : K.In s₁.heap) (hns : s₁.heap.Ns mainGlobals mg) (hb : s₁.heap.Ns builtinsNs mb)
    (hbb : ∀ x : Str, x ≠ "__name__" → mb x = bootBuiltins x) (lim : s₁.heap.NoLimit) (hg : s₁.gens = #[])
    (ha : s₁.heap.get? a = some { cls := .type "list", data := .seq vs.toArray }) (hi : IntsAre vs ns)
    (hl : ns.length ≤ sizeLine) (hr : Room k callerA)
    (F : ∀ base : Heap, K.In base → base.Ns mainGlobals mg → FnG CX0 P w K mg base k fa fd [x] sp)
    (bind : ∀ (s : Shared) (u : Value), BindsTo s fd ⟨[u], []⟩ [(x, u)])
    (hsp : ∀ H : Hp, Only H → SqL K H a (ns.map V.int) → sp [.ref a] H (fun v _ => v = .bl true) fun _ _ _ => False) :
    codeAny (model P w) callerA (.call (.ref fa) ⟨[.ref a], []⟩)
      (fun r s' => r = .ok (.ret (.bool true)) ∧ OldK s₁.heap s'.heap ∧ s'.os = s₁.os ∧ AllBare s'.gens) s₁ := by
  have rv := vals_ints hi
  have nl := hi.length
  generalize eH : entryHp K a vs ns = H
  have at1 : ∀ b u, H b = some u → b = a ∧ K.lookup a = none ∧
      u = .frz { cls := .type "list", data := .seq vs.toArray } (.lst (ns.map V.int)) := by
    intro b u z
    rw [← eH] at z
    unfold entryHp at z
    split at z
    · rename_i c
      exact ⟨c.1, c.2, (Option.some.inj z).symm⟩
    · cases z
  have only : Only H := by
    intro b
    cases z : H b with
    | none => exact .inl rfl
    | some u => exact .inr ⟨_, _, by rw [(at1 b u z).2.2]⟩
  have seq : SqL K H a (ns.map V.int) := by
    cases z : K.lookup a with
    | none =>
      refine .inl (.inr ⟨{ cls := .type "list", data := .seq vs.toArray }, ?_⟩)
      rw [← eH]
      exact if_pos ⟨rfl, z⟩
    | some o =>
      have same := kin a o z
      rw [ha] at same
      cases same
      exact .inr ⟨_, vs.toArray, _, z, rfl, rfl, rfl, by rw [List.size_toArray, nl]; exact hl, by simpa using rv⟩
  have held : HOk P w H s₁.heap := by
    intro b u z
    obtain ⟨rfl, _, rfl⟩ := at1 b u z
    exact ⟨ha, by rw [List.length_map]; exact hl, vs, _, rv, ha⟩
  have notDict : ∀ {b : Addr} {o : Obj} {es : Array DictEntry} {ep : Nat}, s₁.heap.get? b = some o → o.data = .dict es ep → H b = none := by
    intro b o es ep e1 e2
    cases z : H b with
    | none => rfl
    | some u =>
      obtain ⟨rfl, _, _⟩ := at1 b u z
      rw [ha] at e1
      cases e1
      cases e2
  have nsOf : ∀ {b : Addr} {m : Str → Option Value}, s₁.heap.Ns b m → (hidT s₁.heap H).Ns b m := by
    rintro b m ⟨o, es, ep, e1, e2, r⟩
    exact ⟨o, es, ep, hidT_get e1 (notDict e1 e2), e2, r⟩
  have kb : K.In (hidT s₁.heap H) := by
    intro b o e1
    refine hidT_get (kin b o e1) ?_
    cases z : H b with
    | none => rfl
    | some u =>
      obtain ⟨rfl, n, _⟩ := at1 b u z
      rw [n] at e1
      cases e1
  have md : Mod K mg (hidT s₁.heap H) := by
    refine ⟨kb, nsOf hns, ⟨mb, nsOf hb, hbb⟩, ?_⟩
    obtain ⟨mc, h1, h2⟩ := lim
    exact ⟨mc, nsOf h1, h2⟩
  have no0 : ∀ b : Addr, b ∈ frs ([] : List Env) → False := fun b z => by cases z
  have env : Env0 P w K mg (hidT s₁.heap H) callerA [] s₁ H :=
    ⟨rfl, md, fun b o e => of_hidT e, Nat.le_of_eq (hidT_size _ _), trivial, fun b z => (no0 b z).elim, held, .of_eq hg⟩
  have run := (F _ kb (nsOf hns)).runs callerA [] s₁ H ⟨[.ref a], []⟩ [.ref a] [.ref a] _ _ rfl hr env
    (bind s₁ (.ref a)) (.cons rfl .nil) (hsp H only seq)
  refine codeAny_mono run ?_
  intro res s' out
  match res, out with
  | .ok .next, out => exact False.elim out
  | .ok .brk, out => exact False.elim out
  | .ok .cont, out => exact False.elim out
  | .error _, out => exact False.elim out
  | .ok (.ret u), out =>
    obtain ⟨v, H', os, bare, un, held', rel, q⟩ := out
    have q2 : v = .bl true := q
    subst q2
    have q3 : u = Value.bool true := rel
    subst q3
    refine ⟨rfl, OldK.of_keep ?_, os, bare⟩
    intro b o e1
    cases z : H b with
    | none => exact un.keep b o e1 z (fun m => no0 b m) (fun m => by cases m)
    | some u =>
      obtain ⟨rfl, _, rfl⟩ := at1 b u z
      have z2 := held' _ _ (un.frzs _ _ _ z)
      rw [ha] at e1
      cases e1
      exact z2.1

theorem walk_end {l : PySem.W.OpenLaw} {n k : Nat} {q : Program} {loose : List Str} {XP : (Str → Option Value) → Heap → Prop}
    {YP : World → Heap → Prop} {d : DefRec} {K : Params → PySem.W.Frag} {sp : World → Sp} {x : Str}
    (hn : l.most = some n) (hn2 : n ≤ sizeLine) (hdf : d.params.defaults = []) (hr : Room k callerA)
    (hY : ∀ (w : World) (h : Heap), YP w h → (K w.params).In h)
    (F : ∀ (w : World) (mg : Str → Option Value) (fa : Addr) (h : Heap), (K w.params).In h → h.Ns mainGlobals mg →
      mg d.name = some (.ref fa) → ∃ fd : FuncData, (∀ (s : Shared) (u : Value), BindsTo s fd ⟨[u], []⟩ [(x, u)]) ∧
        ∀ base : Heap, (K w.params).In base → base.Ns mainGlobals mg →
          FnG CX0 l.prog w (K w.params) mg base k fa fd [x] (sp w))
    (hsp : ∀ (w : World) (H : Hp) (a : Addr) (ns : List Int), ns.length ≤ n → Only H →
      SqL (K w.params) H a (ns.map V.int) → sp w [.ref a] H (fun v _ => v = .bl true) fun _ _ _ => False) :
    PySem.W.WalkO q loose XP YP l.row.toRowW d [] (fun f vs => PySem.call f vs) := by
  apply Att.attach_call hn hdf
  intro w s₀ s₁ mg mb fa o pm cd doc a vs ns G Y _ _ _ hmg hobj hints hlen hg
  have kin := hY w _ Y
  obtain ⟨fd, hb, hF⟩ := F w mg fa _ kin G.T.g hmg
  exact law_end kin G.T.g G.T.b G.T.builtins G.T.nolimit hg hobj hints (Nat.le_trans hlen hn2) hr hF hb
    (fun H hO hS => hsp w H a ns hlen hO hS)
end Pg
/-! Pg1: operators for ints of any size, heaps that keep what they had, the source of draws. -/
namespace Pg
open PySem PySem.Spec PyProof.Rows L2

/-! ### operators -/
def MlOk (i j : Int) : Prop := CMul i j ∨ CMulW i j
theorem MlOk.ok {i j : Int} (h : MlOk i j) : IntMulOk i j := h.elim (·.ok) (·.ok)
theorem MlOk.l {i j : Int} (h1 : -18446744073709551616 < i) (h2 : i < 18446744073709551616) : MlOk i j := .inl (.inl ⟨h1, h2⟩)
theorem MlOk.r {i j : Int} (h1 : -18446744073709551616 < j) (h2 : j < 18446744073709551616) : MlOk i j := .inl (.inr ⟨h1, h2⟩)
theorem MlOk.w {i j : Int} (a b : Nat) (ha : i.natAbs < 2 ^ a) (hb : j.natAbs < 2 ^ b) (h0 : 0 < a := by decide) (h1 : 0 < b := by decide) (h : a + b ≤ 1000000 := by decide) : MlOk i j := .inr (wide_mul ha hb h0 h1 h)
/-- a divisor that the machine carries -/
def DivOk (_ j : Int) : Prop := j ≠ 0 ∧ j.natAbs.log2 < 9000
theorem DivOk.w {i j : Int} (b : Nat) (h : j ≠ 0) (hb : j.natAbs < 2 ^ b) (h0 : 0 < b := by decide) (h9 : b ≤ 9000 := by decide) : DivOk i j :=
  ⟨h, Nat.lt_of_lt_of_le (PySem.Flt.log2_lt_of h0 hb) h9⟩
theorem DivOk.s {i j : Int} (h : j ≠ 0) (h1 : -18446744073709551616 < j) (h2 : j < 18446744073709551616) : DivOk i j := DivOk.w 64 h (by omega)
/-- a divisor at all -/
def ModOk (_ j : Int) : Prop := j ≠ 0
theorem ModOk.c {i j : Int} (h : j ≠ 0) : ModOk i j := h
section
variable {X : Cx}
theorem op_mulU : OpR X (binaryOp .Mult) (rI MlOk fun i j => .int (i * j)) := opI fun _ _ _ _ _ _ _ hc q => mul_int q hc.ok
theorem op_fdU : OpR X (binaryOp .FloorDiv) (rI DivOk fun i j => .int (i.fdiv j)) := opI fun _ _ _ _ _ _ _ hc q =>
  floordiv_int hc.1 q (.inl (PyProof.noPylong_of_log2 hc.2))
theorem op_modU : OpR X (binaryOp .Mod) (rI ModOk fun i j => .int (i.fmod j)) := op_modN
end
theorem fdiv_pos {i j : Int} (h : 0 < j) : i.fdiv j = i / j := Int.fdiv_eq_ediv_of_nonneg i (by omega)
theorem fmod_pos {i j : Int} (h : 0 < j) : i.fmod j = i % j := Int.fmod_eq_emod_of_nonneg i (by omega)

/-! ### a while, by an invariant and a number that falls -/
theorem while_inv {c : TT} {tb : TS} {D : Ends} {σ : L2.St} {H : Hp} (W : L2.St → Hp → Prop) (μ : L2.St → Hp → Nat) (h0 : W σ H)
    (turn : ∀ σ H, W σ H → c σ H fun b H1 => if b = true then ∃ N : L2.St → Hp → Prop,
      (∀ σ' H', N σ' H' → ∃ m', m' < μ σ H ∧ (m' = μ σ' H' ∧ W σ' H')) ∧ tb { D with nx := N, ct := N, bk := D.nx } σ H1 else D.nx σ H1) :
    tWhile c tb D σ H := by
  refine ⟨fun m σ H => m = μ σ H ∧ W σ H, ⟨_, rfl, h0⟩, ?_⟩
  rintro m σ H ⟨rfl, w⟩
  exact turn σ H w
/-- what a turn leaves -/
theorem while_next {W : L2.St → Hp → Prop} {μ : L2.St → Hp → Nat} {n : Nat} {tb : TS} {D : Ends} {σ : L2.St} {H : Hp}
    (h : tb { D with nx := fun σ' H' => W σ' H' ∧ μ σ' H' < n, ct := fun σ' H' => W σ' H' ∧ μ σ' H' < n, bk := D.nx } σ H) :
    ∃ N : L2.St → Hp → Prop, (∀ σ' H', N σ' H' → ∃ m', m' < n ∧ (m' = μ σ' H' ∧ W σ' H')) ∧ tb { D with nx := N, ct := N, bk := D.nx } σ H :=
  ⟨_, fun σ' H' z => ⟨_, z.2, rfl, z.1⟩, h⟩

/-! ### heaps -/
theorem same_new {H : Hp} {p : Addr} {o : HO} (h : H p = none) : Same H (upd H p o) := fun b x e => by
  rw [upd_ne (ne_of_none e h)]
  exact e
theorem Same.tup {H H' : Hp} {K : PySem.W.Frag} {a : Addr} {xs : List V} (e : Same H H') (h : SqT K H a xs) : SqT K H' a xs := by
  rcases h with (h | ⟨o, h⟩) | h
  · exact .inl (.inl (e _ _ h))
  · exact .inl (.inr ⟨o, e _ _ h⟩)
  · exact .inr h

/-! ### the source of draws -/
theorem k_lc : ¬ (("left" : Str) = "cells") := by decide +kernel
theorem k_ml : ¬ (("mixed" : Str) = "left") := by decide +kernel
theorem k_mc : ¬ (("mixed" : Str) = "cells") := by decide +kernel
theorem k_tc : ¬ (("turn" : Str) = "cells") := by decide +kernel
theorem k_tl : ¬ (("turn" : Str) = "left") := by decide +kernel
theorem k_tm : ¬ (("turn" : Str) = "mixed") := by decide +kernel
theorem inr_ne {x y : Str} (h : ¬ x = y) : ¬ (Sum.inr x : Key) = Sum.inr y := fun e => h (Sum.inr.inj e)
/-- its dict: the cells' list, what is left of the present cell, the mixed number, the turn -/
def srcKV (c : Addr) (l m t : Int) : List (Key × V) :=
  [(.inr "cells", .ref c), (.inr "left", .int l), (.inr "mixed", .int m), (.inr "turn", .int t)]
section
variable {c : Addr} {l m t l' m' t' : Int}
theorem src_c : valV (srcKV c l m t) (.inr "cells") = some (.ref c) := by
  unfold srcKV
  rw [valV_pos rfl]
theorem src_l : valV (srcKV c l m t) (.inr "left") = some (.int l) := by
  unfold srcKV
  rw [valV_neg (inr_ne fun e => k_lc e.symm), valV_pos rfl]
theorem src_m : valV (srcKV c l m t) (.inr "mixed") = some (.int m) := by
  unfold srcKV
  rw [valV_neg (inr_ne fun e => k_mc e.symm), valV_neg (inr_ne fun e => k_ml e.symm), valV_pos rfl]
theorem src_t : valV (srcKV c l m t) (.inr "turn") = some (.int t) := by
  unfold srcKV
  rw [valV_neg (inr_ne fun e => k_tc e.symm), valV_neg (inr_ne fun e => k_tl e.symm), valV_neg (inr_ne fun e => k_tm e.symm), valV_pos rfl]
theorem put_l : putK (srcKV c l m t) (.inr "left") (.int l') = srcKV c l' m t := by
  unfold putK
  rw [valV_any, src_l]
  rw [if_pos (by rfl)]
  unfold srcKV
  simp only [List.map_cons, List.map_nil]
  rw [if_neg (inr_ne fun e => k_lc e.symm), if_pos True.intro, if_neg (inr_ne k_ml), if_neg (inr_ne k_tl)]
theorem put_t : putK (srcKV c l m t) (.inr "turn") (.int t') = srcKV c l m t' := by
  unfold putK
  rw [valV_any, src_t]
  rw [if_pos (by rfl)]
  unfold srcKV
  simp only [List.map_cons, List.map_nil]
  rw [if_neg (inr_ne fun e => k_tc e.symm), if_neg (inr_ne fun e => k_tl e.symm), if_neg (inr_ne fun e => k_tm e.symm), if_pos True.intro]
theorem src_len : (srcKV c l m t).length < sizeLine := by
  show 4 < sizeLine
  decide
theorem src_made : mergeK [] (srcKV c l m t) = srcKV c l m t := by
  show putK (putK (putK (putK [] (.inr "cells") (.ref c)) (.inr "left") (.int l)) (.inr "mixed") (.int m)) (.inr "turn") (.int t) = srcKV c l m t
  have e1 : putK ([] : List (Key × V)) (.inr "cells") (.ref c) = [(.inr "cells", .ref c)] := by
    rw [putK_new _ rfl]
    rfl
  have e2 : putK [((.inr "cells" : Key), V.ref c)] (.inr "left") (.int l) = [(.inr "cells", .ref c), (.inr "left", .int l)] := by
    rw [putK_new _ (by rw [valV_neg (inr_ne fun e => k_lc e.symm)]; rfl)]
    rfl
  have e3 : putK [((.inr "cells" : Key), V.ref c), (.inr "left", .int l)] (.inr "mixed") (.int m) = [(.inr "cells", .ref c), (.inr "left", .int l), (.inr "mixed", .int m)] := by
    rw [putK_new _ (by rw [valV_neg (inr_ne fun e => k_mc e.symm), valV_neg (inr_ne fun e => k_ml e.symm)]; rfl)]
    rfl
  rw [e1, e2, e3]
  rw [putK_new _ (by rw [valV_neg (inr_ne fun e => k_tc e.symm), valV_neg (inr_ne fun e => k_tl e.symm), valV_neg (inr_ne fun e => k_tm e.symm)]; rfl)]
  rfl
end
/-- a source stands at a, its cells at c -/
def Src (H : Hp) (a c : Addr) : Prop := ∃ (l m t : Int) (ns : List Int), H a = some (.dK (srcKV c l m t)) ∧ H c = some (.lst (ns.map V.int))
/-- from H to H' draws were made, things were made anew; all else stands -/
structure Run (a c : Addr) (H H' : Hp) : Prop where
  src : Src H' a c
  keep : ∀ b o, b ≠ a → b ≠ c → H b = some o → H' b = some o
section
variable {a c p : Addr} {H H1 H2 : Hp} {o : HO}
theorem Src.ne (S : Src H a c) : a ≠ c := by
  obtain ⟨_, _, _, _, h1, h2⟩ := S
  exact ne_of h1 h2 (by intro z; cases z)
theorem Src.na (S : Src H a c) (n : H p = none) : a ≠ p := by
  obtain ⟨_, _, _, _, h1, _⟩ := S
  exact ne_of_none h1 n
theorem Src.nc (S : Src H a c) (n : H p = none) : c ≠ p := by
  obtain ⟨_, _, _, _, _, h1⟩ := S
  exact ne_of_none h1 n
theorem Src.new (S : Src H a c) (n : H p = none) : Src (upd H p o) a c := by
  have n1 := S.na n
  have n2 := S.nc n
  obtain ⟨l, m, t, ns, h1, h2⟩ := S
  exact ⟨l, m, t, ns, by rw [upd_ne n1]; exact h1, by rw [upd_ne n2]; exact h2⟩
theorem Src.same (S : Src H a c) (e : Same H H1) : Src H1 a c := by
  obtain ⟨l, m, t, ns, h1, h2⟩ := S
  exact ⟨l, m, t, ns, e _ _ h1, e _ _ h2⟩
theorem Run.refl (S : Src H a c) : Run a c H H := ⟨S, fun _ _ _ _ h => h⟩
theorem Run.trans (x : Run a c H H1) (y : Run a c H1 H2) : Run a c H H2 := ⟨y.src, fun b o h1 h2 h => y.keep b o h1 h2 (x.keep b o h1 h2 h)⟩
theorem Run.same (x : Run a c H H1) (e : Same H1 H2) : Run a c H H2 := ⟨x.src.same e, fun b o h1 h2 h => e _ _ (x.keep b o h1 h2 h)⟩
theorem Run.new (x : Run a c H H1) (n : H1 p = none) : Run a c H (upd H1 p o) := x.same (same_new n)
end

/-! ### the promises of what all laws have -/
def spOpen (K : PySem.W.Frag) : Sp := fun vs H Q _ => ∃ (a : Addr) (ns : List Int), vs = [.ref a] ∧ SqL K H a (ns.map V.int) ∧ ns.length ≤ 63 ∧
  ∀ (H' : Hp) (p c : Addr), Same H H' → H p = none → H c = none → Src H' p c → Q (.ref p) H'
def spPick : Sp := fun vs H Q _ => ∃ (a c : Addr) (n : Int), vs = [.ref a, .int n] ∧ Src H a c ∧ n.natAbs.log2 < 9000 ∧
  ∀ (H' : Hp) (k : Int), Run a c H H' → 0 ≤ k → (k < n ∨ k = 0) → Q (.int k) H'
def spCommon : Sp := fun vs H Q _ => ∃ (x y : Int), vs = [.int x, .int y] ∧ Q (.int (Nat.gcd x.natAbs y.natAbs : Nat)) H
end Pg
namespace Pg
open PySem PySem.Spec PyProof.Rows L2
/-! ### a def of the text as it stands behind the top -/
structure Df (K : PySem.W.Frag) (mg : Str → Option Value) (x : Str) (st : Stmt) (ps : List Str) : Prop where
  ex : ∃ (f : Addr) (fd : FuncData), Fun K x x st f fd ∧ mg x = some (.ref f) ∧ Binds K fd ps []
theorem df_mk {K : PySem.W.Frag} {h : Heap} {mg : Str → Option Value} {x : Str} {st : Stmt} {ps : List Str} {f : Addr} {oc : Value} {od an : Option Addr}
    {sl : Array (Option Value)} {kV dc pm cd ct : Value} (X : K.In h) (G : h.Ns mainGlobals mg) (a : PySem.W.nsIn K mainGlobals x = some (some (.ref f)))
    (l : K.lookup f = some ⟨oc, od, .func (PySem.W.fnOf x x (defArgs st) (defBody st) (defScope st) .none kV dc pm an cd ct), sl⟩)
    (c : PySem.W.codeIn K cd x = true) (k : PySem.W.keepIn K (.ref f) = true)
    (hb : ∀ (kV doc pm : Value) (an : Option Addr) (cdv ct : Value) (us : List Value), us.length = ps.length →
      bindArgs (PySem.W.fnOf x x (defArgs st) (defBody st) (defScope st) .none kV doc pm an cdv ct) ⟨us, []⟩ = pure (ps.zip us)) : Df K mg x st ps :=
  ⟨f, _, fun_mk l c k, PySem.W.mg_of X G a, (fun_mk l c k).binds hb⟩
theorem cal_of {P : Program} {w : World} {K : PySem.W.Frag} {mg : Str → Option Value} {base : Heap} {x : Str} {st : Stmt} {ps : List Str} {k : Nat} {sp : Sp}
    (D : Df K mg x st ps) (h : ∀ f fd, Fun K x x st f fd → FnG CX0 P w K mg base k f fd ps sp) : Cal P w K mg base k x ps sp := by
  obtain ⟨f, fd, F, m, b⟩ := D.ex
  exact ⟨f, fd, h f fd F, m, F.kp, b⟩
end Pg
namespace Pg
open PySem PySem.Spec PyProof.Rows L2
/-- a while whose end asks Z alone, however it ends -/
theorem while_two {c : TT} {tb : TS} {D : Ends} {σ : L2.St} {H : Hp} (W Z : L2.St → Hp → Prop) (μ : L2.St → Hp → Nat) (h0 : W σ H)
    (done : ∀ σ H, Z σ H → D.nx σ H)
    (turn : (∀ σ H, Z σ H → D.nx σ H) → ∀ σ H, W σ H → c σ H fun b H1 => if b = true then ∃ N : L2.St → Hp → Prop,
      (∀ σ' H', N σ' H' → ∃ m', m' < μ σ H ∧ (m' = μ σ' H' ∧ W σ' H')) ∧ tb { D with nx := N, ct := N, bk := D.nx } σ H1 else D.nx σ H1) :
    tWhile c tb D σ H := while_inv W μ h0 (turn done)
end Pg
namespace Pg
open PySem PySem.Spec PyProof.Rows L2
theorem abs_nat (i : Int) : (if i < 0 then -i else i) = (i.natAbs : Int) := by
  split <;> omega
end Pg
namespace Pg
open PySem PySem.Spec PyProof.Rows L2
/-- a comprehension's turn without tests -/
theorem yes_ite {σ : L2.St} {H : Hp} {A B : Hp → Prop} (h : A H) : tYes σ H (fun b H3 => if b = true then A H3 else B H3) := by
  show (if true = true then A H else B H)
  rw [if_pos rfl]
  exact h
end Pg
namespace Pg
open PySem PySem.Spec PyProof.Rows L2
theorem div_le_abs {a m : Int} (hm : 0 < m) : (a / m).natAbs ≤ a.natAbs := by
  have h1 := Int.mul_ediv_add_emod a m
  have h2 := Int.emod_nonneg a (show m ≠ 0 by omega)
  have h3 := Int.emod_lt_of_pos a hm
  by_cases c : 0 ≤ a
  · have h4 : 0 ≤ a / m := Int.ediv_nonneg c (by omega)
    have h5 : a / m ≤ m * (a / m) := by
      have := Int.mul_le_mul_of_nonneg_right (show (1 : Int) ≤ m by omega) h4
      omega
    omega
  · have h4 : a / m < 0 := Int.ediv_neg_of_neg_of_pos (by omega) hm
    have h5 : - (a / m) - 1 ≤ m * (- (a / m) - 1) := by
      have := Int.mul_le_mul_of_nonneg_right (show (1 : Int) ≤ m by omega) (show (0 : Int) ≤ - (a / m) - 1 by omega)
      omega
    have h6 : m * (- (a / m) - 1) = - (m * (a / m)) - m := by
      rw [Int.mul_sub, Int.mul_neg, Int.mul_one]
    omega
end Pg
namespace Pg
open PySem PySem.Spec PyProof.Rows L2
theorem abs_add {x y : Int} {a : Nat} (hx : x.natAbs < 2 ^ a) (hy : y.natAbs < 2 ^ a) : (x + y).natAbs < 2 ^ (a + 1) := by
  rw [Nat.pow_succ]
  omega
theorem abs_up {x : Int} {a b : Nat} (h : x.natAbs < 2 ^ a) (hab : a ≤ b := by decide) : x.natAbs < 2 ^ b :=
  Nat.lt_of_lt_of_le h (Nat.pow_le_pow_right (by decide) hab)
theorem Src.nep {H : Hp} {a c p : Addr} (S : Src H a c) (n : H p = none) : p ≠ a ∧ p ≠ c := ⟨(S.na n).symm, (S.nc n).symm⟩
/-- a law's promise: called with the script it answers True -/
def spLaw (K : PySem.W.Frag) : Sp := fun vs H Q _ => ∃ (a : Addr) (ns : List Int), vs = [.ref a] ∧ SqL K H a (ns.map V.int) ∧ ns.length ≤ 63 ∧
  ∀ H', Q (.bl true) H'
end Pg
/-! LadMath: sums of what is rounded down, in plain Lean. -/
namespace Lad

/-- f 0 + .. + f (n - 1) -/
def sumTo (f : Nat → Int) : Nat → Int
  | 0 => 0
  | n + 1 => sumTo f n + f n
theorem sumTo_congr {f g : Nat → Int} : ∀ {n : Nat}, (∀ i, i < n → f i = g i) → sumTo f n = sumTo g n
  | 0, _ => rfl
  | n + 1, h => by
    show sumTo f n + f n = sumTo g n + g n
    rw [sumTo_congr (n := n) fun i hi => h i (by omega), h n (by omega)]
theorem sumTo_add {f g : Nat → Int} : ∀ n : Nat, sumTo (fun i => f i + g i) n = sumTo f n + sumTo g n
  | 0 => rfl
  | n + 1 => by
    show sumTo (fun i => f i + g i) n + (f n + g n) = (sumTo f n + f n) + (sumTo g n + g n)
    rw [sumTo_add n]
    omega
theorem sumTo_neg {f : Nat → Int} : ∀ n : Nat, sumTo (fun i => - f i) n = - sumTo f n
  | 0 => rfl
  | n + 1 => by
    show sumTo (fun i => - f i) n + (- f n) = - (sumTo f n + f n)
    rw [sumTo_neg n]
    omega
theorem sumTo_const (c : Int) : ∀ n : Nat, sumTo (fun _ => c) n = (n : Int) * c
  | 0 => by simp [sumTo]
  | n + 1 => by
    show sumTo (fun _ => c) n + c = ((n + 1 : Nat) : Int) * c
    rw [sumTo_const c n, Int.natCast_succ, Int.add_mul, Int.one_mul]
theorem sumTo_split (f : Nat → Int) (n : Nat) : ∀ k : Nat, sumTo f (n + k) = sumTo f n + sumTo (fun i => f (n + i)) k
  | 0 => by simp [sumTo]
  | k + 1 => by
    show sumTo f (n + k) + f (n + k) = sumTo f n + (sumTo (fun i => f (n + i)) k + f (n + k))
    rw [sumTo_split f n k]
    omega
theorem sumTo_head (f : Nat → Int) (n : Nat) : sumTo f (n + 1) = f 0 + sumTo (fun i => f (i + 1)) n := by
  have h := sumTo_split f 1 n
  rw [Nat.add_comm 1 n] at h
  rw [h]
  have e : sumTo f 1 = f 0 := by simp [sumTo]
  rw [e, sumTo_congr (f := fun i => f (1 + i)) (g := fun i => f (i + 1)) fun i _ => by rw [Nat.add_comm]]
theorem sumTo_rev : ∀ (f : Nat → Int) (n : Nat), sumTo (fun i => f (n - 1 - i)) n = sumTo f n
  | f, 0 => rfl
  | f, n + 1 => by
    rw [sumTo_head]
    have h := sumTo_rev f n
    rw [sumTo_congr (f := fun i => f (n + 1 - 1 - (i + 1))) (g := fun i => f (n - 1 - i)) fun i hi => by
      congr 1
      omega, h]
    show f (n + 1 - 1 - 0) + sumTo f n = sumTo f n + f n
    rw [show n + 1 - 1 - 0 = n by omega]
    omega
theorem sumTo_mono0 {f : Nat → Int} : ∀ {n : Nat}, (∀ i, i < n → 0 ≤ f i) → 0 ≤ sumTo f n
  | 0, _ => Int.le_refl _
  | n + 1, h => by
    have h1 := sumTo_mono0 (f := f) (n := n) fun i hi => h i (by omega)
    have h2 := h n (by omega)
    show 0 ≤ sumTo f n + f n
    omega
/-- the sum of i, doubled -/
theorem sumTo_id : ∀ n : Nat, 2 * sumTo (fun i => (i : Int)) n = (n : Int) * ((n : Int) - 1)
  | 0 => by simp [sumTo]
  | n + 1 => by
    show 2 * (sumTo (fun i => (i : Int)) n + (n : Int)) = ((n + 1 : Nat) : Int) * (((n + 1 : Nat) : Int) - 1)
    rw [Int.mul_add, sumTo_id n, Int.natCast_succ, show ((n : Int) + 1 - 1) = (n : Int) by omega, Int.add_mul, Int.one_mul, Int.mul_sub, Int.mul_one]
    generalize (n : Int) * (n : Int) = z
    omega
theorem sumTo_mul (c : Int) (f : Nat → Int) : ∀ n : Nat, sumTo (fun i => c * f i) n = c * sumTo f n
  | 0 => by simp [sumTo]
  | n + 1 => by
    show sumTo (fun i => c * f i) n + c * f n = c * (sumTo f n + f n)
    rw [sumTo_mul c f n, Int.mul_add]

/-- the ladder: the sum of (a i + b) / m, each rounded down -/
def lad (n : Nat) (a b m : Int) : Int := sumTo (fun i => (a * i + b) / m) n

theorem lad_zero (a b m : Int) : lad 0 a b m = 0 := rfl
theorem lad_succ (n : Nat) (a b m : Int) : lad (n + 1) a b m = lad n a b m + (a * n + b) / m := rfl
theorem lad_split (n k : Nat) (a b m : Int) : lad (n + k) a b m = lad n a b m + lad k a (b + a * n) m := by
  unfold lad
  rw [sumTo_split]
  congr 1
  apply sumTo_congr
  intro i _
  congr 1
  rw [Int.natCast_add, Int.mul_add]
  omega
theorem div_add_mul {x s m : Int} (hm : 0 < m) : (x + s * m) / m = x / m + s := Int.add_mul_ediv_right x s (by omega)
/-- half of n (n - 1) -/
def tri (n : Int) : Int := n * (n - 1) / 2
theorem tri_sum (n : Nat) : sumTo (fun i => (i : Int)) n = tri n := by
  have h := sumTo_id n
  unfold tri
  rw [← h]
  omega
theorem lad_a (n : Nat) (a b m s : Int) (hm : 0 < m) : lad n (a + s * m) b m = lad n a b m + s * tri n := by
  unfold lad
  rw [← tri_sum, ← sumTo_mul, ← sumTo_add]
  apply sumTo_congr
  intro i _
  rw [← div_add_mul hm]
  congr 1
  rw [Int.add_mul, Int.mul_right_comm s m i]
  omega
theorem lad_b (n : Nat) (a b m s : Int) (hm : 0 < m) : lad n a (b + s * m) m = lad n a b m + s * n := by
  unfold lad
  rw [Int.mul_comm s n, ← sumTo_const, ← sumTo_add]
  apply sumTo_congr
  intro i _
  rw [← div_add_mul hm]
  congr 1
  omega
theorem neg_div {x m : Int} (hm : 0 < m) : (- x - 1) / m = - (x / m) - 1 := by
  have h1 := Int.mul_ediv_add_emod x m
  have h2 := Int.emod_nonneg x (show m ≠ 0 by omega)
  have h3 := Int.emod_lt_of_pos x hm
  have e : - x - 1 = (m - 1 - x % m) + (- (x / m) - 1) * m := by
    rw [Int.sub_mul, Int.neg_mul, Int.mul_comm (x / m) m]
    omega
  rw [e, div_add_mul hm, Int.ediv_eq_zero_of_lt (by omega) (by omega)]
  omega
theorem lad_neg (n : Nat) (a b m : Int) (hm : 0 < m) : lad n (0 - a) (0 - b - 1) m = 0 - lad n a b m - n := by
  unfold lad
  have h : sumTo (fun i => ((0 - a) * (i : Int) + (0 - b - 1)) / m) n = sumTo (fun i => - ((a * (i : Int) + b) / m) + (- 1)) n := by
    apply sumTo_congr
    intro i _
    have e : (0 - a) * (i : Int) + (0 - b - 1) = - (a * (i : Int) + b) - 1 := by
      rw [Int.sub_mul]
      omega
    rw [e, neg_div hm]
    omega
  rw [h, sumTo_add, sumTo_neg, sumTo_const]
  omega

/-! ### one turn: the roles change -/
/-- the sum over the other side, told from the top line on -/
def side (t a m : Int) (y : Nat) : Int := sumTo (fun j => (t - ((j : Int) + 1) * m) / a) y
theorem side_step {t a m : Int} (ha : 0 < a) (y : Nat) : side (t + a) a m y = y + side t a m y := by
  unfold side
  have h : sumTo (fun j => (t + a - ((j : Int) + 1) * m) / a) y = sumTo (fun j => 1 + (t - ((j : Int) + 1) * m) / a) y := by
    apply sumTo_congr
    intro j _
    have e : t + a - ((j : Int) + 1) * m = (t - ((j : Int) + 1) * m) + 1 * a := by omega
    rw [e, div_add_mul ha]
    omega
  rw [h, sumTo_add, sumTo_const]
  omega
theorem lad_side {a b m : Int} (h0 : 0 < a) (h1 : a < m) (hb0 : 0 ≤ b) (hb1 : b < m) : ∀ n : Nat, lad n a b m = side (a * n + b) a m ((a * n + b) / m).toNat
  | 0 => by
    rw [lad_zero]
    have e : (a * ((0 : Nat) : Int) + b) / m = 0 := by
      rw [show a * ((0 : Nat) : Int) + b = b by simp]
      exact Int.ediv_eq_zero_of_lt hb0 hb1
    rw [e]
    rfl
  | n + 1 => by
    rw [lad_succ, lad_side h0 h1 hb0 hb1 n]
    generalize et : a * (n : Int) + b = t
    have t0 : 0 ≤ t := by
      rw [← et]
      have := Int.mul_nonneg (show (0 : Int) ≤ a by omega) (show (0 : Int) ≤ (n : Int) by omega)
      omega
    have es : a * ((n + 1 : Nat) : Int) + b = t + a := by
      rw [Int.natCast_succ, Int.mul_add, ← et]
      omega
    rw [es, side_step h0]
    have hm : (0 : Int) < m := by omega
    have d1 := Int.mul_ediv_add_emod t m
    have d2 := Int.emod_nonneg t (show m ≠ 0 by omega)
    have d3 := Int.emod_lt_of_pos t hm
    have q0 : 0 ≤ t / m := Int.ediv_nonneg t0 (by omega)
    by_cases hc : t % m + a < m
    · have e : (t + a) / m = t / m := by
        rw [show t + a = (t % m + a) + (t / m) * m by rw [Int.mul_comm (t / m) m]; omega, div_add_mul hm, Int.ediv_eq_zero_of_lt (by omega) (by omega)]
        omega
      rw [e]
      have c : (((t / m).toNat : Nat) : Int) = t / m := Int.toNat_of_nonneg q0
      omega
    · have e : (t + a) / m = t / m + 1 := by
        rw [show t + a = (t % m + a - m) + (t / m + 1) * m by rw [Int.add_mul, Int.mul_comm (t / m) m]; omega, div_add_mul hm, Int.ediv_eq_zero_of_lt (by omega) (by omega)]
        omega
      rw [e]
      have c : (((t / m).toNat : Nat) : Int) = t / m := Int.toNat_of_nonneg q0
      have e2 : (t / m + 1).toNat = (t / m).toNat + 1 := by omega
      rw [e2]
      show side t a m (t / m).toNat + t / m = (((t / m).toNat + 1 : Nat) : Int) + (side t a m (t / m).toNat + (t - ((((t / m).toNat : Nat) : Int) + 1) * m) / a)
      rw [c]
      have e3 : t - (t / m + 1) * m = (t % m + a - m) + (-1) * a := by
        rw [Int.add_mul, Int.mul_comm (t / m) m]
        omega
      have e4 : (t % m + a - m) / a = 0 := Int.ediv_eq_zero_of_lt (by omega) (by omega)
      rw [e3, div_add_mul h0, e4]
      omega
theorem side_lad {t a m : Int} (hm : 0 < m) (h0 : 0 ≤ t) : side t a m (t / m).toNat = lad (t / m).toNat m (t % m) a := by
  unfold side lad
  rw [← sumTo_rev (fun i => (m * (i : Int) + t % m) / a)]
  apply sumTo_congr
  intro j hj
  congr 1
  have q0 : 0 ≤ t / m := Int.ediv_nonneg h0 (by omega)
  have d1 := Int.mul_ediv_add_emod t m
  have c : ((((t / m).toNat - 1 - j : Nat)) : Int) = t / m - 1 - (j : Int) := by omega
  show t - ((j : Int) + 1) * m = m * ((((t / m).toNat - 1 - j : Nat)) : Int) + t % m
  rw [c, Int.mul_sub, Int.mul_sub, Int.add_mul, Int.mul_comm (j : Int) m]
  omega
/-- the turn of the loop -/
theorem lad_turn {n : Nat} {a b m : Int} (hm : 0 < m) :
    lad n a b m = tri n * (a / m) + n * (b / m) + lad ((a % m * n + b % m) / m).toNat m ((a % m * n + b % m) % m) (a % m) := by
  have ea : a = a % m + (a / m) * m := by
    have := Int.mul_ediv_add_emod a m
    rw [Int.mul_comm (a / m) m]
    omega
  have eb : b = b % m + (b / m) * m := by
    have := Int.mul_ediv_add_emod b m
    rw [Int.mul_comm (b / m) m]
    omega
  have a0 := Int.emod_nonneg a (show m ≠ 0 by omega)
  have a1 := Int.emod_lt_of_pos a hm
  have b0 := Int.emod_nonneg b (show m ≠ 0 by omega)
  have b1 := Int.emod_lt_of_pos b hm
  have e1 : lad n a b m = lad n (a % m) (b % m) m + (b / m) * n + (a / m) * tri n := by
    have h1 := lad_b n (a % m + (a / m) * m) (b % m) m (b / m) hm
    have h2 := lad_a n (a % m) (b % m) m (a / m) hm
    rw [← ea, ← eb] at h1
    rw [← ea] at h2
    omega
  rw [e1, Int.mul_comm (b / m), Int.mul_comm (a / m)]
  have t0 : 0 ≤ a % m * (n : Int) + b % m := by
    have := Int.mul_nonneg a0 (show (0 : Int) ≤ (n : Int) by omega)
    omega
  have e2 : lad n (a % m) (b % m) m = lad ((a % m * n + b % m) / m).toNat m ((a % m * n + b % m) % m) (a % m) := by
    by_cases hz : a % m = 0
    · rw [hz]
      have e : (0 * (n : Int) + b % m) / m = 0 := by
        rw [Int.zero_mul, Int.zero_add]
        exact Int.ediv_eq_zero_of_lt b0 b1
      rw [e]
      show lad n 0 (b % m) m = 0
      unfold lad
      rw [sumTo_congr (g := fun _ => (0 : Int)) fun i _ => by
        rw [Int.zero_mul, Int.zero_add]
        exact Int.ediv_eq_zero_of_lt b0 b1, sumTo_const]
      simp
    · rw [lad_side (by omega) a1 b0 b1 n, side_lad hm t0]
  rw [e2]
  omega

/-! ### numbers without a common divisor -/
theorem lad_coprime {p q : Nat} (hp : 0 < p) (hq : 0 < q) (hc : Nat.Coprime p q) : lad q p 0 q = ((p : Int) - 1) * ((q : Int) - 1) / 2 := by
  obtain ⟨k, rfl⟩ : ∃ k, q = k + 1 := ⟨q - 1, by omega⟩
  generalize em : ((k + 1 : Nat) : Int) = m
  have hm : 0 < m := by omega
  have f0 : lad (k + 1) p 0 m = sumTo (fun i => ((p : Int) * ((i + 1 : Nat) : Int)) / m) k := by
    unfold lad
    rw [sumTo_head]
    have e : ((p : Int) * ((0 : Nat) : Int) + 0) / m = 0 := by simp
    rw [e, Int.zero_add]
    apply sumTo_congr
    intro i _
    rw [Int.add_zero]
  have key : ∀ i, i < k → ((p : Int) * ((i + 1 : Nat) : Int)) / m + ((p : Int) * ((k - 1 - i + 1 : Nat) : Int)) / m = (p : Int) - 1 := by
    intro i hi
    generalize ex : (p : Int) * ((i + 1 : Nat) : Int) = x
    have ey : (p : Int) * ((k - 1 - i + 1 : Nat) : Int) = (- x - 0) + (p : Int) * m := by
      have e : ((k - 1 - i + 1 : Nat) : Int) = m - ((i + 1 : Nat) : Int) := by omega
      rw [e, Int.mul_sub, ex]
      omega
    rw [ey, div_add_mul hm]
    have nz : x % m ≠ 0 := by
      intro z
      have d : ((k + 1 : Nat) : Int) ∣ ((p * (i + 1) : Nat) : Int) := by
        rw [em, Int.natCast_mul, ex]
        exact Int.dvd_of_emod_eq_zero z
      have d2 : (k + 1) ∣ p * (i + 1) := Int.natCast_dvd_natCast.mp d
      have d3 : (k + 1) ∣ (i + 1) := Nat.Coprime.dvd_of_dvd_mul_left hc.symm d2
      have := Nat.le_of_dvd (by omega) d3
      omega
    have h1 := Int.mul_ediv_add_emod x m
    have h2 := Int.emod_nonneg x (show m ≠ 0 by omega)
    have h3 := Int.emod_lt_of_pos x hm
    have e2 : - x - 0 = (m - x % m) + (- (x / m) - 1) * m := by
      rw [Int.sub_mul, Int.neg_mul, Int.mul_comm (x / m) m]
      omega
    have e4 : (m - x % m) / m = 0 := Int.ediv_eq_zero_of_lt (by omega) (by omega)
    rw [e2, div_add_mul hm, e4]
    omega
  rw [f0]
  generalize eS : sumTo (fun i => ((p : Int) * ((i + 1 : Nat) : Int)) / m) k = S
  have r := sumTo_rev (fun i => ((p : Int) * ((i + 1 : Nat) : Int)) / m) k
  rw [eS] at r
  have two : S + S = (k : Int) * ((p : Int) - 1) := by
    have h := sumTo_add (f := fun i => ((p : Int) * ((i + 1 : Nat) : Int)) / m) (g := fun i => ((p : Int) * ((k - 1 - i + 1 : Nat) : Int)) / m) k
    rw [sumTo_congr (g := fun _ => (p : Int) - 1) key, sumTo_const, eS] at h
    have r' : sumTo (fun i => ((p : Int) * ((k - 1 - i + 1 : Nat) : Int)) / m) k = S := r
    rw [r'] at h
    exact h.symm
  have e : ((p : Int) - 1) * (m - 1) = S + S := by
    rw [two, Int.mul_comm]
    congr 1
    omega
  rw [e]
  omega
end Lad
namespace Lad
theorem range_sum (f : Nat → Int) : ∀ n : Nat, ((List.range n).map f).sum = sumTo f n
  | 0 => rfl
  | n + 1 => by
    rw [List.range_succ, List.map_append, List.sum_append, range_sum f n]
    show sumTo f n + ([f n] : List Int).sum = sumTo f n + f n
    rw [List.sum_cons]
    show sumTo f n + (f n + 0) = sumTo f n + f n
    rw [Int.add_zero]
/-- the last claim's two numbers -/
theorem lad_common {x y : Int} (hx : 0 < x) (hy : 0 < y) :
    lad (y / (Nat.gcd x.natAbs y.natAbs : Nat)).toNat (x / (Nat.gcd x.natAbs y.natAbs : Nat)) 0 (y / (Nat.gcd x.natAbs y.natAbs : Nat)) =
      ((x / (Nat.gcd x.natAbs y.natAbs : Nat)) - 1) * ((y / (Nat.gcd x.natAbs y.natAbs : Nat)) - 1) / 2 := by
  obtain ⟨p, rfl⟩ : ∃ p : Nat, x = p := ⟨x.toNat, by omega⟩
  obtain ⟨q, rfl⟩ : ∃ q : Nat, y = q := ⟨y.toNat, by omega⟩
  show lad ((q : Int) / ((Nat.gcd p q : Nat) : Int)).toNat ((p : Int) / ((Nat.gcd p q : Nat) : Int)) 0 ((q : Int) / ((Nat.gcd p q : Nat) : Int)) =
    (((p : Int) / ((Nat.gcd p q : Nat) : Int)) - 1) * (((q : Int) / ((Nat.gcd p q : Nat) : Int)) - 1) / 2
  have g0 : 0 < Nat.gcd p q := Nat.gcd_pos_of_pos_left _ (by omega)
  rw [← Int.natCast_ediv, ← Int.natCast_ediv, Int.toNat_natCast]
  exact lad_coprime (Nat.div_pos (Nat.le_of_dvd (by omega) (Nat.gcd_dvd_left p q)) g0) (Nat.div_pos (Nat.le_of_dvd (by omega) (Nat.gcd_dvd_right p q)) g0) (Nat.coprime_div_gcd_div_gcd g0)
end Lad
namespace Qk85
open PySem PySem.Spec PyProof.Rows L2 Pg
/-! ### the text -/
def topS (i : Nat) : Stmt := PySem.Challenge.pw_plateheaps_k85_ladders.main.body.getD i (.Pass ⟨0, 0, 0, 0⟩)
abbrev s_p_ladder : Stmt := topS 1
abbrev N_p_ladder : List Str := ["n", "a", "b", "m", "found", "last"]
theorem sc_p_ladder : FnScope N_p_ladder ["n", "a", "b", "m"] (defScope s_p_ladder) := ⟨rfl, rfl, rfl, by decide +kernel, rfl, by decide +kernel, by decide +kernel⟩
abbrev s_l_open_cells : Stmt := topS 3
abbrev N_l_open_cells : List Str := ["_law_script", "_law_mixed", "_law_cell", "_law_digits"]
theorem sc_l_open_cells : FnScope N_l_open_cells ["_law_script"] (defScope s_l_open_cells) := ⟨rfl, rfl, rfl, by decide +kernel, rfl, by decide +kernel, by decide +kernel⟩
abbrev s_l_pick : Stmt := topS 4
abbrev N_l_pick : List Str := ["_law_source", "_law_most", "_law_digits", "_law_left", "_law_laps", "_law_mixed"]
theorem sc_l_pick : FnScope N_l_pick ["_law_source", "_law_most"] (defScope s_l_pick) := ⟨rfl, rfl, rfl, by decide +kernel, rfl, by decide +kernel, by decide +kernel⟩
abbrev s_l_common : Stmt := topS 5
abbrev N_l_common : List Str := ["_law_a", "_law_b"]
theorem sc_l_common : FnScope N_l_common ["_law_a", "_law_b"] (defScope s_l_common) := ⟨rfl, rfl, rfl, by decide +kernel, rfl, by decide +kernel, by decide +kernel⟩
abbrev s_law : Stmt := topS 6
abbrev N_law : List Str := ["_law_script", "_law_source", "_law_lap", "_law_great", "_law_both", "_law_n", "_law_a", "_law_b", "_law_m", "_law_k", "_law_step", "_law_one", "_law_other"]
theorem sc_law : FnScope N_law ["_law_script"] (defScope s_law) := ⟨rfl, rfl, rfl, by decide +kernel, rfl, by decide +kernel, by decide +kernel⟩
/-! ### the ladder's promise -/
abbrev Small (x : Int) : Prop := x.natAbs < 2 ^ 300
def spLad : Sp := fun vs H Q _ => ∃ (n a b m : Int), vs = [.int n, .int a, .int b, .int m] ∧ 0 ≤ n ∧ 0 < m ∧ Small n ∧ Small a ∧ Small b ∧ Small m ∧
  ∀ H', Same H H' → Q (.int (Lad.lad n.toNat a b m)) H'
theorem lt_up {x : Nat} {a b : Nat} (h : x < 2 ^ a) (hab : a ≤ b) : x < 2 ^ b := Nat.lt_of_lt_of_le h (Nat.pow_le_pow_right (by decide) hab)
/-- all sizes of one turn -/
theorem lad_sizes {n a b m : Int} (h0 : 0 < n) (hm : 0 < m) (sn : Small n) (sa : Small a) (sb : Small b) (sm : Small m) :
    MlOk n (n - 1) ∧ MlOk ((n * (n - 1)).fdiv 2) (a.fdiv m) ∧ MlOk n (b.fdiv m) ∧ MlOk (a.fmod m) n := by
  have p1 : (n - 1).natAbs < 2 ^ 300 := Nat.lt_of_le_of_lt (by omega) sn
  have e1 : (n * (n - 1)).fdiv 2 = n * (n - 1) / 2 := fdiv_pos (by decide)
  have e2 : a.fdiv m = a / m := fdiv_pos hm
  have e3 : b.fdiv m = b / m := fdiv_pos hm
  have e4 : a.fmod m = a % m := fmod_pos hm
  have p2 : (n * (n - 1)).natAbs < 2 ^ 600 := wide_lt sn p1
  have p3 : (n * (n - 1) / 2).natAbs < 2 ^ 600 := Nat.lt_of_le_of_lt (div_le_abs (by decide)) p2
  have p4 : (a / m).natAbs < 2 ^ 300 := Nat.lt_of_le_of_lt (div_le_abs hm) sa
  have p5 : (b / m).natAbs < 2 ^ 300 := Nat.lt_of_le_of_lt (div_le_abs hm) sb
  have m0 := Int.emod_nonneg a (show m ≠ 0 by omega)
  have m1 := Int.emod_lt_of_pos a hm
  have p6 : (a % m).natAbs < 2 ^ 300 := Nat.lt_of_le_of_lt (by omega) sm
  rw [e1, e2, e3, e4]
  exact ⟨.w 300 300 sn p1, .w 600 300 p3 p4, .w 300 300 sn p5, .w 300 300 p6 sn⟩
/-- the next turn's numbers -/
theorem lad_next {n a b m : Int} (h0 : 0 ≤ n) (hm : 0 < m) :
    0 ≤ (a % m * n + b % m) / m ∧ (a % m * n + b % m) / m ≤ n ∧ (a % m = 0 → (a % m * n + b % m) / m = 0) := by
  have a0 := Int.emod_nonneg a (show m ≠ 0 by omega)
  have a1 := Int.emod_lt_of_pos a hm
  have b0 := Int.emod_nonneg b (show m ≠ 0 by omega)
  have b1 := Int.emod_lt_of_pos b hm
  have t0 : 0 ≤ a % m * n := Int.mul_nonneg a0 h0
  refine ⟨Int.ediv_nonneg (by omega) (by omega), ?_, fun z => ?_⟩
  · have h1 : a % m * n ≤ (m - 1) * n := Int.mul_le_mul_of_nonneg_right (by omega) h0
    have h2 : (m - 1) * n = n * m - n := by rw [Int.sub_mul, Int.one_mul, Int.mul_comm]
    have h3 : (a % m * n + b % m) / m ≤ (n * m + (m - 1)) / m := Int.ediv_le_ediv hm (by omega)
    have h4 : (n * m + (m - 1)) / m = n := by
      rw [Int.add_comm, Int.add_mul_ediv_right _ _ (by omega), Int.ediv_eq_zero_of_lt (by omega) (by omega)]
      omega
    omega
  · rw [z, Int.zero_mul, Int.zero_add]
    exact Int.ediv_eq_zero_of_lt b0 b1
local macro_rules | `(tactic| walk_at "rd") => `(tactic| repeat (first | refine ⟨_, rfl, ?_⟩ | refine ⟨_, _, rfl, rfl, ?_⟩ | refine ⟨_, _, rfl, ?_⟩ | refine ⟨(show MlOk _ _ by assumption), ?_⟩ | refine ⟨(show DivOk _ _ by assumption), ?_⟩ | refine ⟨(show ModOk _ _ by assumption), ?_⟩))
theorem chk1 {n k a b m : Int} (hn : 0 ≤ n) (hk : 0 ≤ k) : Lad.lad (n + k).toNat a b m = Lad.lad n.toNat a b m + Lad.lad k.toNat a (b + a * n) m := by
  have e : (n + k).toNat = n.toNat + k.toNat := by omega
  rw [e, Lad.lad_split, Int.toNat_of_nonneg hn]
theorem chk2 {n a b m : Int} (hn : 0 ≤ n) (hm : 0 < m) : Lad.lad (n + 1).toNat a b m - Lad.lad n.toNat a b m = (a * n + b).fdiv m := by
  have e : (n + 1).toNat = n.toNat + 1 := by omega
  rw [e, Lad.lad_succ, Int.toNat_of_nonneg hn, fdiv_pos hm]
  omega
theorem chk3 {n a b m s : Int} (hn : 0 ≤ n) (hm : 0 < m) : Lad.lad n.toNat (a + s * m) b m = Lad.lad n.toNat a b m + s * (n * (n - 1)).fdiv 2 := by
  rw [Lad.lad_a _ _ _ _ _ hm, Int.toNat_of_nonneg hn, fdiv_pos (by decide)]
  rfl
theorem chk4 {n a b m s : Int} (hn : 0 ≤ n) (hm : 0 < m) : Lad.lad n.toNat a (b + s * m) m = Lad.lad n.toNat a b m + s * n := by
  rw [Lad.lad_b _ _ _ _ _ hm, Int.toNat_of_nonneg hn]
theorem chk5 {n a b m : Int} (hn : 0 ≤ n) (hm : 0 < m) : Lad.lad n.toNat (0 - a) (0 - b - 1) m = 0 - Lad.lad n.toNat a b m - n := by
  rw [Lad.lad_neg _ _ _ _ hm, Int.toNat_of_nonneg hn]
section
variable {P : Program} {w : World} {K : PySem.W.Frag} {mg : Str → Option Value} {base : Heap}
/-- what the module's names of built-ins hold -/
structure Bi (mg : Str → Option Value) : Prop where
  b_abs : mg "abs" = none
  b_int : mg "int" = none
  b_len : mg "len" = none
  b_range : mg "range" = none
  b_sum : mg "sum" = none
theorem ok_p_ladder (B : Bi mg) (DF : Df K mg "ladder" s_p_ladder ["n", "a", "b", "m"]) :
    Cal P w K mg base 1 "ladder" ["n", "a", "b", "m"] spLad := by
  refine cal_of DF fun f fd F => FnG.of_fun F sc_p_ladder (fun vs H Q E h => ?_) (fun cdv A outer s H vs Q E gd hr h => ?_)
  · obtain ⟨n, a, b, m, rfl, hn, hm, sn, sa, sb, sm, q⟩ := h
    rfl
  · obtain ⟨n, a, b, m, rfl, hn, hm, sn, sa, sb, sm, q⟩ := h
    refine ⟨_, (pss_cons (ps_set (i := 4) sc_p_ladder.nd rfl (.inl rfl) pe_int)
      (pss_cons (ps_while PassesOwn.never (pt_cmpR op_gt (pv 0) pe_int (nomark _))
        (pss_cons (ps_aug (i := 4) sc_p_ladder.nd rfl (.inl rfl) (pe_op op_add (pe_op op_mulU (pe_op op_fdU (pe_op op_mulU (pv 0) (pe_op op_sub (pv 0) pe_int)) pe_int) (pe_op op_fdU (pv 1) (pv 3))) (pe_op op_mulU (pv 0) (pe_op op_fdU (pv 2) (pv 3)))) ip_add)
          (pss_cons (ps_par (i := 1) (j := 2) rfl sc_p_ladder.nd rfl rfl (by decide) rfl rfl (pa_cons (pe_op op_modU (pv 1) (pv 3)) (pa_cons (pe_op op_modU (pv 2) (pv 3)) pa_nil)) rfl)
          (pss_cons (ps_set (i := 5) sc_p_ladder.nd rfl (.inl rfl) (pe_op op_add (pe_op op_mulU (pv 1) (pv 0)) (pv 2)))
          (pss_one (ps_asg (pe_tup (pa_cons (pe_op op_fdU (pv 5) (pv 3)) (pa_cons (pv 3) (pa_cons (pe_op op_modU (pv 5) (pv 3)) (pa_cons (pv 1) pa_nil))))) (pg_tup rfl (pgs_cons (pg_name (i := 0) sc_p_ladder.nd rfl (Or.inl rfl)) (pgs_cons (pg_name (i := 1) sc_p_ladder.nd rfl (Or.inl rfl)) (pgs_cons (pg_name (i := 2) sc_p_ladder.nd rfl (Or.inl rfl)) (pgs_cons (pg_name (i := 3) sc_p_ladder.nd rfl (Or.inl rfl)) pgs_nil)))))))))))
      (pss_one (ps_ret (pv 4))))), ?_⟩
    refine while_two (fun σ H' => Same H H' ∧ ∃ (n1 a1 b1 m1 f : Int) (y : Option V), σ = [some (.int n1), some (.int a1), some (.int b1), some (.int m1), some (.int f), y] ∧ 0 ≤ n1 ∧ (0 < n1 → 0 < m1) ∧
        Small n1 ∧ Small a1 ∧ Small b1 ∧ Small m1 ∧ f + Lad.lad n1.toNat a1 b1 m1 = Lad.lad n.toNat a b m)
      (fun σ H' => Same H H' ∧ ∃ (x0 x1 x2 x3 x5 : Option V), σ = [x0, x1, x2, x3, some (.int (Lad.lad n.toNat a b m)), x5])
      (fun σ _ => match σ with | [_, _, _, some (.int z), _, _] => z.natAbs | _ => 0) ⟨.refl H, n, a, b, m, 0, none, rfl, hn, fun _ => hm, sn, sa, sb, sm, by omega⟩ (fun σ H' z => ?_) (fun fin σ H' z => ?_)
    · obtain ⟨same, x0, x1, x2, x3, x5, rfl⟩ := z
      exact ⟨_, rfl, q _ same⟩
    obtain ⟨same, n1, a1, b1, m1, f1, y, rfl, hn1, hm1, sn1, sa1, sb1, sm1, inv⟩ := z
    refine ⟨_, rfl, _, _, rfl, rfl, _, rfl, ite2 (fun e => ?_) (fun e => ?_)⟩
    · have pn : 0 < n1 := of_decide_eq_true e
      have pm := hm1 pn
      obtain ⟨k1, k2, k3, k4⟩ := lad_sizes pn pm sn1 sa1 sb1 sm1
      have d2 : ∀ i, DivOk i 2 := fun i => .s (by decide) (by decide) (by decide)
      have dm : ∀ i, DivOk i m1 := fun i => .w 300 (by omega) sm1
      have mm : ∀ i, ModOk i m1 := fun i => .c (by omega)
      have d2' := d2 (n1 * (n1 - 1))
      have dm1 := dm a1
      have dm2 := dm b1
      have mm1 := mm a1
      have mm2 := mm b1
      refine while_next ?_
      walk_at "rd"
      -- last // m, m, last % m, a
      refine ⟨by show 4 ≤ sizeLine; decide, fun p np => ?_⟩
      have e2 : a1.fmod m1 = a1 % m1 := fmod_pos pm
      have e3 : b1.fmod m1 = b1 % m1 := fmod_pos pm
      have e4 : ∀ i : Int, i.fdiv m1 = i / m1 := fun i => fdiv_pos pm
      have e5 : ∀ i : Int, i.fmod m1 = i % m1 := fun i => fmod_pos pm
      have e6 : (n1 * (n1 - 1)).fdiv 2 = Lad.tri n1 := fdiv_pos (by decide)
      obtain ⟨x0, x1, x2⟩ := lad_next (n := n1) (a := a1) (b := b1) hn1 pm
      have a0 := Int.emod_nonneg a1 (show m1 ≠ 0 by omega)
      have a2 := Int.emod_lt_of_pos a1 pm
      have turn := Lad.lad_turn (n := n1.toNat) (a := a1) (b := b1) (m := m1) pm
      rw [show ((n1.toNat : Nat) : Int) = n1 by omega] at turn
      generalize el : a1 % m1 * n1 + b1 % m1 = last at *
      have l0 := Int.emod_nonneg last (show m1 ≠ 0 by omega)
      have l1 := Int.emod_lt_of_pos last pm
      refine ⟨p, _, rfl, .inl (.inl upd_same), rfl, _, _, rfl, _, _, rfl, _, _, rfl, _, _, rfl, rfl, ⟨fun b o e => ?_, last / m1, m1, last % m1, a1 % m1, f1 + (Lad.tri n1 * (a1 / m1) + n1 * (b1 / m1)), some (.int last), ?_, x0, ?_, ?_, sm1, ?_, ?_, ?_⟩, ?_⟩
      · rw [upd_ne (ne_of_none (same _ _ e) np)]
        exact same _ _ e
      · show [some (V.int ((a1.fmod m1 * n1 + b1.fmod m1).fdiv m1)), some (V.int m1), some (V.int ((a1.fmod m1 * n1 + b1.fmod m1).fmod m1)), some (V.int (a1.fmod m1)),
          some (V.int (f1 + ((n1 * (n1 - 1)).fdiv 2 * a1.fdiv m1 + n1 * b1.fdiv m1))), some (V.int (a1.fmod m1 * n1 + b1.fmod m1))] = _
        rw [e4, e4, e4, e5, e5, e5, e6, el]
      · intro z
        by_cases c : a1 % m1 = 0
        · have := x2 c
          omega
        · omega
      · exact Nat.lt_of_le_of_lt (by omega) sn1
      · exact Nat.lt_of_le_of_lt (by omega) sm1
      · exact Nat.lt_of_le_of_lt (by omega) sm1
      · rw [← inv, turn]
        omega
      · show (a1.fmod m1).natAbs < m1.natAbs
        rw [e5]
        omega
    · have z0 : ¬ 0 < n1 := fun z => e (decide_eq_true z)
      have z1 : n1.toNat = 0 := by omega
      rw [z1, Lad.lad_zero] at inv
      have ef : f1 = Lad.lad n.toNat a b m := by omega
      subst ef
      exact fin _ _ ⟨same, _, _, _, _, _, rfl⟩
theorem ok_l_open_cells (B : Bi mg) (DF : Df K mg "_law_open_cells" s_l_open_cells ["_law_script"]) :
    Cal P w K mg base 1 "_law_open_cells" ["_law_script"] (spOpen K) := by
  have m_abs := B.b_abs
  have m_int := B.b_int
  refine cal_of DF fun f fd F => FnG.of_fun F sc_l_open_cells (fun vs H Q E h => ?_) (fun cdv A outer s H vs Q E gd hr h => ?_)
  · obtain ⟨a, ns, rfl, hS, hlen, q⟩ := h
    rfl
  · obtain ⟨a, ns, rfl, hS, hlen, q⟩ := h
    refine ⟨_, (pss_cons (ps_set (i := 1) sc_l_open_cells.nd rfl (.inl rfl) pe_int)
      (pss_cons (ps_for PassesOwn.never rfl (pi_list (pv 0)) (pg_name (i := 2) sc_l_open_cells.nd rfl (Or.inl rfl))
        (pss_one (ps_set (i := 1) sc_l_open_cells.nd rfl (.inl rfl) (pe_op op_modU (pe_callTy call_int1 (by rfl) m_int (by decide +kernel) (pa_cons (pe_op op_add (pe_op op_add (pe_op op_mulU (pv 1) pe_int) (pe_op op_mulU (pv 2) pe_int)) pe_int) pa_nil)) pe_int))))
      (pss_cons (ps_setLc (i := 3) (own := [("_law_cell", 2)]) (g := gName 2) rfl sc_l_open_cells.nd rfl rfl (sw_true rfl rfl rfl (by decide +kernel)) (pi_list (pv 0)) (blkOk_by (own := [("_law_cell", 2)]) (N := N_l_open_cells) (sc := defScope s_l_open_cells) (by decide +kernel)) (fun _ _ _ _ _ => (pg_name (i := 2) sc_l_open_cells.nd rfl (Or.inl rfl))) (fun _ _ _ _ _ => pts_nil) (fun _ _ _ _ _ => (pe_callB call_abs (by rfl) m_abs (by decide +kernel) (pa_cons (pv 2) pa_nil))))
      (pss_one (ps_ret (pe_disp (pps_cons pe_str (pe_revL (pv 3)) (pps_cons pe_str pe_int (pps_cons pe_str (pv 1) (pps_cons pe_str pe_int pps_nil)))) (by rfl) (by rfl) (fun z => by cases z) (by decide))))))), ?_⟩
    -- mixed = 11; for cell in script
    refine ⟨.ref a, rfl, a, rfl, ⟨_, hS⟩, for_list (xs := ns.map V.int) (fun i σ H' => H' = H ∧ ∃ (m : Int) (y : Option V), σ = [some (.ref a), some (.int m), y, none]) ⟨rfl, 11, none, rfl⟩
      (fun i σ H' _ z => by obtain ⟨rfl, _⟩ := z; exact hS) (fun i x σ H' hx z => ?_) (fun σ H' z => ?_)⟩
    · obtain ⟨rfl, m, y, rfl⟩ := z
      obtain ⟨n, _, rfl⟩ : ∃ n, n ∈ ns ∧ V.int n = x := List.mem_map.mp (List.mem_of_getElem? hx)
      refine ⟨_, rfl, _, _, rfl, rfl, .r (by decide) (by decide), _, rfl, _, _, rfl, rfl, .r (by decide) (by decide), ?_⟩
      refine ⟨_, _, rfl, rfl, _, _, rfl, rfl, .inl ⟨_, rfl, _, _, rfl, rfl, .c (by decide), ?_⟩⟩
      exact ⟨rfl, _, _, rfl⟩
    · obtain ⟨rfl, m, y, rfl⟩ := z
      -- digits = [abs(cell) ..]
      refine ⟨.ref a, rfl, a, rfl, ⟨_, hS⟩, fun D nD => ?_⟩
      refine lc_list (xs := ns.map V.int) (fun i H2 => Same H' H2 ∧ ∃ ks : List Int, H2 D = some (.lst (ks.map V.int)) ∧ ks.length = i ∧ i ≤ ns.length) ⟨same_new nD, [], upd_same, rfl, Nat.zero_le _⟩
        (fun i H2 _ z => z.1.seq hS) (fun i x H2 hx z => ?_) (fun H2 z => ?_)
      · obtain ⟨sm, ks, hk, hl, hi⟩ := z
        obtain ⟨n, _, rfl⟩ : ∃ n, n ∈ ns ∧ V.int n = x := List.mem_map.mp (List.mem_of_getElem? hx)
        have hlt : i < ns.length := by
          have := (List.getElem?_eq_some_iff.mp hx).1
          simpa using this
        refine ⟨rfl, yes_ite ?_⟩
        refine ⟨_, rfl, n, rfl, _, hk, small1000 (by rw [List.length_map]; omega), fun b o e => ?_, ks ++ [if n < 0 then -n else n], ?_, by rw [List.length_append, hl]; rfl, hlt⟩
        · rw [upd_ne (ne_of_none e nD)]
          exact sm _ _ e
        · rw [upd_same, List.map_append]
          rfl
      · obtain ⟨sm, ks, hk, _, _⟩ := z
        have nD2 : H' D = none := nD
        -- the dict
        refine fun p np => ⟨.ref D, rfl, D, ks.map V.int, rfl, ?_, fun c nc => ⟨_, rfl, ?_, srcKV c 1 m 0, rfl, by show 4 ≤ 15; decide, ?_⟩⟩
        · exact .inl (.inl (by rw [upd_ne (ne_of_none hk np)]; exact hk))
        · have n1 : c ≠ p := fun e => by
            rw [e, upd_same] at nc
            cases nc
          rw [upd_ne n1.symm, upd_same]
        · have n1 : c ≠ p := fun e => by
            rw [e, upd_same] at nc
            cases nc
          have nc2 : H2 c = none := by
            rw [upd_ne n1] at nc
            exact nc
          refine q _ p c (fun b o e => ?_) (sm.free np) (sm.free nc2) ⟨1, m, 0, ks.reverse, ?_, ?_⟩
          · have e2 := sm _ _ e
            rw [upd_ne (ne_of_none e2 np), upd_ne (ne_of_none e2 nc2), upd_ne (ne_of_none e2 np)]
            exact e2
          · rw [upd_same, src_made]
          · rw [upd_ne n1, upd_same, List.map_reverse]
theorem ok_l_pick (B : Bi mg) (DF : Df K mg "_law_pick" s_l_pick ["_law_source", "_law_most"]) :
    Cal P w K mg base 1 "_law_pick" ["_law_source", "_law_most"] spPick := by
  have m_int := B.b_int
  have m_len := B.b_len
  refine cal_of DF fun f fd F => FnG.of_fun F sc_l_pick (fun vs H Q E h => ?_) (fun cdv A outer s H vs Q E gd hr h => ?_)
  · obtain ⟨a, c, n, rfl, S, hn, q⟩ := h
    rfl
  · obtain ⟨a, c, n, rfl, S, hn, q⟩ := h
    refine ⟨_, (pss_cons (ps_if (pt_cmpR op_lt (pv 1) pe_int (nomark _))
        (pss_one (ps_ret pe_int))
        pss_nil)
      (pss_cons (ps_set (i := 2) sc_l_pick.nd rfl (.inl rfl) (pe_dget (hu_of hr) (pv 0) pe_str (fun _ _ => rfl)))
      (pss_cons (ps_while PassesOwn.never ((pw_and (pt_cmpR op_lt (pe_dget (hu_of hr) (pv 0) pe_str (fun _ _ => rfl)) pe_int (nomark _)) (pw_and1 (pt_cmpR op_gt (pe_callB call_len_seq (by rfl) m_len (by decide +kernel) (pa_cons (pv 2) pa_nil)) pe_int (nomark _))))).pt
        (pss_one (ps_dput (hu_of hr) (pv 0) pe_str (pe_bm0 PySem.F.plainAttrs_list PySem.F.slot_list_pop PySem.F.type_list_pop mt_pop (pv 2)) rfl)))
      (pss_cons (ps_set (i := 3) sc_l_pick.nd rfl (.inl rfl) (pe_dget (hu_of hr) (pv 0) pe_str (fun _ _ => rfl)))
      (pss_cons (ps_if (pt_cmpR op_gt (pv 3) pe_int (nomark _))
        (pss_cons (ps_dput (hu_of hr) (pv 0) pe_str (pe_op op_fdU (pv 3) (pv 1)) rfl)
          (pss_one (ps_ret (pe_op op_modU (pe_callTy call_int1 (by rfl) m_int (by decide +kernel) (pa_cons (pv 3) pa_nil)) (pv 1)))))
        pss_nil)
      (pss_cons (ps_dput (hu_of hr) (pv 0) pe_str (pe_op op_add (pe_dget (hu_of hr) (pv 0) pe_str (fun _ _ => rfl)) pe_int) rfl)
      (pss_cons (ps_set (i := 4) sc_l_pick.nd rfl (.inl rfl) (pe_dget (hu_of hr) (pv 0) pe_str (fun _ _ => rfl)))
      (pss_cons (ps_set (i := 5) sc_l_pick.nd rfl (.inl rfl) (pe_op op_modU (pe_callTy call_int1 (by rfl) m_int (by decide +kernel) (pa_cons (pe_op op_add (pe_dget (hu_of hr) (pv 0) pe_str (fun _ _ => rfl)) (pe_op op_mulU (pv 4) pe_int)) pa_nil)) pe_int))
      (pss_cons (ps_set (i := 5) sc_l_pick.nd rfl (.inl rfl) (pe_op op_modU (pe_callTy call_int1 (by rfl) m_int (by decide +kernel) (pa_cons (pe_op op_add (pe_op op_mulU (pv 5) (pv 5)) (pe_op op_mulU (pv 4) pe_int)) pa_nil)) pe_int))
      (pss_one (ps_ret (pe_op op_modU (pe_callTy call_int1 (by rfl) m_int (by decide +kernel) (pa_cons (pe_op op_fdU (pv 5) pe_int) pa_nil)) (pv 1))))))))))))), ?_⟩
    -- if most < 2
    refine ⟨_, rfl, _, _, rfl, rfl, _, rfl, ite2 (fun e => ?_) (fun e => ?_)⟩
    · exact q H 0 (.refl S) (by decide) (.inr rfl)
    have hn2 : 2 ≤ n := by
      have := of_decide_eq_false (Bool.eq_false_iff.mpr e)
      omega
    have dn : ∀ i, DivOk i n := fun i => ⟨by omega, hn⟩
    have md : ∀ i : Int, 0 ≤ i.fmod n ∧ (i.fmod n < n ∨ i.fmod n = 0) := fun i => by
      rw [fmod_pos (show 0 < n by omega)]
      exact ⟨Int.emod_nonneg i (by omega), .inl (Int.emod_lt_of_pos i (by omega))⟩
    obtain ⟨l0, m0, t0, ns0, ha0, hc0⟩ := id S
    -- digits = source['cells']
    refine ⟨_, rfl, a, .ref c, rfl, .inl ⟨_, .inr "cells", .inl ha0, rfl, src_c.symm⟩, ?_⟩
    -- while
    refine while_two (fun σ H' => σ = [some (.ref a), some (.int n), some (.ref c), none, none, none] ∧ Run a c H H' ∧ ∃ (l : Int) (ns : List Int), H' a = some (.dK (srcKV c l m0 t0)) ∧ H' c = some (.lst (ns.map V.int)))
      (fun σ H' => σ = [some (.ref a), some (.int n), some (.ref c), none, none, none] ∧ Run a c H H' ∧ ∃ (l : Int) (ns : List Int), H' a = some (.dK (srcKV c l m0 t0)) ∧ H' c = some (.lst (ns.map V.int)))
      (fun _ H' => match H' c with | some (.lst xs) => xs.length | _ => 0) ⟨rfl, .refl S, l0, ns0, ha0, hc0⟩ (fun σ H' z => ?_) (fun fin σ H' z => ?_)
    · obtain ⟨rfl, R, l, ns, ha, hc⟩ := z
      have nac : a ≠ c := S.ne
      -- left = source['left']
      refine ⟨_, rfl, a, .int l, rfl, .inl ⟨_, .inr "left", .inl ha, rfl, src_l.symm⟩, ?_⟩
      refine ⟨_, rfl, _, _, rfl, rfl, _, rfl, ite2 (fun e => ?_) (fun e => ?_)⟩
      · refine ⟨_, rfl, _, rfl, _, _, rfl, rfl, dn _, _, rfl, a, _, rfl, .inl ⟨_, .inr "left", ha, rfl, src_len, rfl⟩, ?_⟩
        rw [put_l]
        refine ⟨_, rfl, .inl ⟨_, rfl, _, rfl, _, _, rfl, rfl, .c (by omega), q _ _ ⟨⟨_, m0, t0, ns, upd_same, by rw [upd_ne nac.symm]; exact hc⟩, fun b o n1 n2 e3 => ?_⟩ (md _).1 (md _).2⟩⟩
        rw [upd_ne n1]
        exact R.keep b o n1 n2 e3
      · -- source['turn'] = source['turn'] + 1
        refine ⟨_, rfl, a, .int t0, rfl, .inl ⟨_, .inr "turn", .inl ha, rfl, src_t.symm⟩, _, _, rfl, rfl, _, rfl, a, _, rfl, .inl ⟨_, .inr "turn", ha, rfl, src_len, rfl⟩, ?_⟩
        rw [put_t]
        have ha2 : upd H' a (.dK (srcKV c l m0 (t0 + 1))) a = some (.dK (srcKV c l m0 (t0 + 1))) := upd_same
        refine ⟨_, rfl, a, .int (t0 + 1), rfl, .inl ⟨_, .inr "turn", .inl ha2, rfl, src_t.symm⟩, ?_⟩
        -- mixed
        refine ⟨_, rfl, a, .int m0, rfl, .inl ⟨_, .inr "mixed", .inl ha2, rfl, src_m.symm⟩, _, rfl, _, _, rfl, rfl, .r (by decide) (by decide), _, _, rfl, rfl, .inl ⟨_, rfl, _, _, rfl, rfl, .c (by decide), ?_⟩⟩
        generalize eM : (m0 + (t0 + 1) * 104729).fmod 998244353 = M
        have hM : 0 ≤ M ∧ M < 998244353 := by
          rw [← eM, fmod_pos (by decide)]
          exact ⟨Int.emod_nonneg _ (by decide), Int.emod_lt_of_pos _ (by decide)⟩
        refine ⟨_, rfl, _, rfl, _, _, rfl, rfl, .l (by omega) (by omega), _, rfl, _, _, rfl, rfl, .r (by decide) (by decide), _, _, rfl, rfl, .inl ⟨_, rfl, _, _, rfl, rfl, .c (by decide), ?_⟩⟩
        refine ⟨_, rfl, _, _, rfl, rfl, .s (by decide) (by decide) (by decide), .inl ⟨_, rfl, _, rfl, _, _, rfl, rfl, .c (by omega), q _ _ ⟨⟨l, m0, t0 + 1, ns, upd_same, by rw [upd_ne nac.symm]; exact hc⟩, fun b o n1 n2 e3 => ?_⟩ (md _).1 (md _).2⟩⟩
        rw [upd_ne n1]
        exact R.keep b o n1 n2 e3
    obtain ⟨rfl, R, l, ns, ha, hc⟩ := z
    refine ⟨_, rfl, a, .int l, rfl, .inl ⟨_, .inr "left", .inl ha, rfl, src_l.symm⟩, _, _, rfl, rfl, _, rfl, ite2 (fun e => ?_) (fun e => ?_)⟩
    · -- and len(digits) > 0
      refine ⟨_, rfl, c, _, rfl, .inl (.inl (.inl hc)), _, _, rfl, rfl, _, rfl, ite2 (fun e2 => ?_) (fun e2 => ?_)⟩
      · have pos : 0 < ns.length := by
          have := of_decide_eq_true e2
          rw [List.length_map] at this
          omega
        refine while_next ?_
        have gl : ns[ns.length - 1]? = some ns[ns.length - 1] := List.getElem?_eq_getElem (by omega)
        refine ⟨_, rfl, .inl ⟨rfl, _, .inl (.inl hc)⟩, c, ns.map V.int, .int ns[ns.length - 1], rfl, rfl, hc, by rw [List.length_map, List.getElem?_map, gl]; rfl, ?_⟩
        have nac : a ≠ c := S.ne
        refine ⟨_, rfl, a, _, rfl, .inl ⟨_, .inr "left", by rw [upd_ne nac]; exact ha, rfl, src_len, rfl⟩, ?_⟩
        rw [put_l]
        have h1 : upd (upd H' c (.lst (ns.map V.int).dropLast)) a (.dK (srcKV c ns[ns.length - 1] m0 t0)) c = some (.lst (ns.dropLast.map V.int)) := by
          rw [upd_ne nac.symm, upd_same, List.map_dropLast]
        refine ⟨⟨rfl, ⟨⟨ns[ns.length - 1], m0, t0, ns.dropLast, upd_same, h1⟩, fun b o n1 n2 e3 => ?_⟩, ns[ns.length - 1], ns.dropLast, upd_same, h1⟩, ?_⟩
        · rw [upd_ne n1, upd_ne n2]
          exact R.keep b o n1 n2 e3
        · simp only [h1, hc]
          rw [List.length_map, List.length_map, List.length_dropLast]
          omega
      · exact fin _ _ ⟨rfl, R, l, ns, ha, hc⟩
    · exact fin _ _ ⟨rfl, R, l, ns, ha, hc⟩
theorem ok_l_common (B : Bi mg) (DF : Df K mg "_law_common" s_l_common ["_law_a", "_law_b"]) :
    Cal P w K mg base 1 "_law_common" ["_law_a", "_law_b"] spCommon := by
  have m_abs := B.b_abs
  refine cal_of DF fun f fd F => FnG.of_fun F sc_l_common (fun vs H Q E h => ?_) (fun cdv A outer s H vs Q E gd hr h => ?_)
  · obtain ⟨x, y, rfl, q⟩ := h
    rfl
  · obtain ⟨x, y, rfl, q⟩ := h
    refine ⟨_, (pss_cons (ps_par (i := 0) (j := 1) rfl sc_l_common.nd rfl rfl (by decide) rfl rfl (pa_cons (pe_callB call_abs (by rfl) m_abs (by decide +kernel) (pa_cons (pv 0) pa_nil)) (pa_cons (pe_callB call_abs (by rfl) m_abs (by decide +kernel) (pa_cons (pv 1) pa_nil)) pa_nil)) rfl)
      (pss_cons (ps_while PassesOwn.never (pt_cmpR op_ne (pv 1) pe_int (nomark _))
        (pss_one (ps_par (i := 0) (j := 1) rfl sc_l_common.nd rfl rfl (by decide) rfl rfl (pa_cons (pv 1) (pa_cons (pe_op op_modU (pv 0) (pv 1)) pa_nil)) rfl)))
      (pss_one (ps_ret (pv 0))))), ?_⟩
    -- a, b = abs(a), abs(b)
    refine ⟨_, rfl, _, rfl, _, rfl, _, rfl, _, _, rfl, ?_⟩
    rw [abs_nat, abs_nat]
    refine while_inv (fun σ H' => H' = H ∧ ∃ a b : Nat, σ = [some (.int a), some (.int b)] ∧ Nat.gcd a b = Nat.gcd x.natAbs y.natAbs)
      (fun σ _ => match σ with | [_, some (.int b)] => b.natAbs | _ => 0) ⟨rfl, x.natAbs, y.natAbs, rfl, rfl⟩ (fun σ H' z => ?_)
    obtain ⟨rfl, a, b, rfl, hg⟩ := z
    refine ⟨_, rfl, rfl, _, rfl, ite2 (fun e => ?_) (fun e => ?_)⟩
    · have hb : 0 < b := by
        have : ¬ V.int (b : Int) = V.int 0 := fun z => by
          rw [decide_eq_true z] at e
          cases e
        have : ¬ (b : Int) = 0 := fun z => this (by rw [z])
        omega
      refine while_next ?_
      have e4 : (a : Int).fmod (b : Int) = ((a % b : Nat) : Int) := by
        rw [fmod_pos (by omega)]
        rfl
      have lt : a % b < b := Nat.mod_lt a hb
      refine ⟨_, rfl, _, rfl, _, rfl, _, _, rfl, rfl, .c (by omega), _, _, rfl, ⟨rfl, b, a % b, ?_, ?_⟩, ?_⟩
      · show [some (V.int (b : Int)), some (V.int ((a : Int).fmod (b : Int)))] = _
        rw [e4]
      · rw [← hg, Nat.gcd_comm a b, Nat.gcd_rec b a, Nat.gcd_comm]
      · show ((a : Int).fmod (b : Int)).natAbs < (b : Int).natAbs
        rw [e4]
        exact lt
    · have hb : b = 0 := by
        have e2 : (!decide (V.int (b : Int) = V.int 0)) = false := Bool.eq_false_iff.mpr e
        have e3 : V.int (b : Int) = V.int 0 := of_decide_eq_true (by simpa using e2)
        have := V.int.inj e3
        omega
      subst hb
      rw [Nat.gcd_zero_right] at hg
      refine ⟨_, rfl, ?_⟩
      rw [hg]
      exact q
theorem ok_law (B : Bi mg) {f : Addr} {fd : FuncData} (F : Fun K "law" "law" s_law f fd)
    (C_l_open_cells : Cal P w K mg base 1 "_law_open_cells" ["_law_script"] (spOpen K))
    (C_l_common : Cal P w K mg base 1 "_law_common" ["_law_a", "_law_b"] spCommon)
    (C_p_ladder : Cal P w K mg base 1 "ladder" ["n", "a", "b", "m"] spLad)
    (C_l_pick : Cal P w K mg base 1 "_law_pick" ["_law_source", "_law_most"] spPick) :
    FnG CX0 P w K mg base 2 f fd ["_law_script"] (spLaw K) := by
  have m_int := B.b_int
  have m_range := B.b_range
  have m_sum := B.b_sum
  refine FnG.of_fun F sc_law (fun vs H Q E h => ?_) (fun cdv A outer s H vs Q E gd hr h => ?_)
  · obtain ⟨a, ns, rfl, hS, hlen, q⟩ := h
    rfl
  · obtain ⟨a, ns, rfl, hS, hlen, q⟩ := h
    refine ⟨_, (pss_cons (ps_set (i := 1) sc_law.nd rfl (.inr rfl) (pe_c C_l_open_cells (hr.mono (by decide)) gd (by rfl) (pa_cons (pv 0) pa_nil)))
      (pss_cons (ps_for PassesOwn.never rfl (pi_range1 (by rfl) m_range (pa_cons pe_int pa_nil)) (pg_name (i := 2) sc_law.nd rfl (Or.inl rfl))
        (pss_cons (ps_asg (pe_tup (pa_cons (pe_c C_l_pick (hr.mono (by decide)) gd (by rfl) (pa_cons (pv 1) (pa_cons pe_int pa_nil))) (pa_cons (pe_op op_add pe_int (pe_c C_l_pick (hr.mono (by decide)) gd (by rfl) (pa_cons (pv 1) (pa_cons pe_int pa_nil)))) pa_nil))) (pg_tup rfl (pgs_cons (pg_name (i := 5) sc_law.nd rfl (Or.inl rfl)) (pgs_cons (pg_name (i := 8) sc_law.nd rfl (Or.inr rfl)) pgs_nil))))
          (pss_cons (ps_asg (pe_tup (pa_cons (pe_op op_sub (pe_c C_l_pick (hr.mono (by decide)) gd (by rfl) (pa_cons (pv 1) (pa_cons pe_int pa_nil))) pe_int) (pa_cons (pe_op op_sub (pe_c C_l_pick (hr.mono (by decide)) gd (by rfl) (pa_cons (pv 1) (pa_cons pe_int pa_nil))) pe_int) pa_nil))) (pg_tup rfl (pgs_cons (pg_name (i := 6) sc_law.nd rfl (Or.inr rfl)) (pgs_cons (pg_name (i := 7) sc_law.nd rfl (Or.inr rfl)) pgs_nil))))
          (pss_one (ps_if (pt_cmpR op_ne (pe_c C_p_ladder (hr.mono (by decide)) gd (by rfl) (pa_cons (pv 5) (pa_cons (pv 6) (pa_cons (pv 7) (pa_cons (pv 8) pa_nil))))) (pe_callB (cr_sum rfl) (by rfl) m_sum (by decide +kernel) (pa_cons (pe_lc (own := [("_law_k", 9)]) (g := gName 9) rfl sc_law.nd (pi_range1 (by rfl) m_range (pa_cons (pv 5) pa_nil)) (blkOk_by (own := [("_law_k", 9)]) (N := N_law) (sc := defScope s_law) (by decide +kernel)) (fun _ _ _ _ _ => (pg_name (i := 9) sc_law.nd rfl (Or.inl rfl))) (fun _ _ _ _ _ => pts_nil) (fun _ _ _ _ _ => (pe_op op_fdU (pe_callTy call_int1 (by rfl) m_int (by decide +kernel) (pa_cons (pe_op op_add (pe_op op_mulU (pv 6) (pv 9)) (pv 7)) pa_nil)) (pv 8)))) pa_nil)) (nomark _))
            (pss_one (ps_ret pe_bl))
            pss_nil)))))
      (pss_cons (ps_setLc (i := 3) (own := [("_law_lap", 2)]) (g := gName 2) rfl sc_law.nd rfl rfl (sw_true rfl rfl rfl (by decide +kernel)) (pi_range1 (by rfl) m_range (pa_cons pe_int pa_nil)) (blkOk_by (own := [("_law_lap", 2)]) (N := N_law) (sc := defScope s_law) (by decide +kernel)) (fun _ _ _ _ _ => (pg_name (i := 2) sc_law.nd rfl (Or.inl rfl))) (fun _ _ _ _ _ => pts_nil) (fun _ _ _ _ _ => (pe_op op_add (pe_op op_add (pe_op op_pow pe_int pe_int) (pe_op op_mulU (pe_c C_l_pick (hr.mono (by decide)) gd (by rfl) (pa_cons (pv 1) (pa_cons (pe_op op_pow pe_int pe_int) pa_nil))) (pe_op op_pow pe_int pe_int))) (pe_c C_l_pick (hr.mono (by decide)) gd (by rfl) (pa_cons (pv 1) (pa_cons (pe_op op_pow pe_int pe_int) pa_nil))))))
      (pss_cons (ps_asg (pe_tup (pa_cons (pe_ix ix_seq (pv 3) pe_int (fun _ _ => rfl)) (pa_cons (pe_ix ix_seq (pv 3) pe_int (fun _ _ => rfl)) (pa_cons (pe_op op_mulU (pe_ix ix_seq (pv 3) pe_int (fun _ _ => rfl)) (pe_ix ix_seq (pe_lst (pa_cons pe_int (pa_cons (pe_op op_sub pe_int pe_int) pa_nil))) (pe_c C_l_pick (hr.mono (by decide)) gd (by rfl) (pa_cons (pv 1) (pa_cons pe_int pa_nil))) (fun _ _ => rfl))) (pa_cons (pe_ix ix_seq (pv 3) pe_int (fun _ _ => rfl)) pa_nil))))) (pg_tup rfl (pgs_cons (pg_name (i := 5) sc_law.nd rfl (Or.inl rfl)) (pgs_cons (pg_name (i := 6) sc_law.nd rfl (Or.inr rfl)) (pgs_cons (pg_name (i := 7) sc_law.nd rfl (Or.inr rfl)) (pgs_cons (pg_name (i := 8) sc_law.nd rfl (Or.inr rfl)) pgs_nil))))))
      (pss_cons (ps_par (i := 9) (j := 10) rfl sc_law.nd rfl rfl (by decide) rfl rfl (pa_cons (pe_op op_mulU (pe_c C_l_pick (hr.mono (by decide)) gd (by rfl) (pa_cons (pv 1) (pa_cons (pe_op op_pow pe_int pe_int) pa_nil))) (pe_op op_pow pe_int pe_int)) (pa_cons (pe_op op_sub (pe_c C_l_pick (hr.mono (by decide)) gd (by rfl) (pa_cons (pv 1) (pa_cons pe_int pa_nil))) pe_int) pa_nil)) rfl)
      (pss_cons (ps_if (pt_cmpR op_ne (pe_c C_p_ladder (hr.mono (by decide)) gd (by rfl) (pa_cons (pe_op op_add (pv 5) (pv 9)) (pa_cons (pv 6) (pa_cons (pv 7) (pa_cons (pv 8) pa_nil))))) (pe_op op_add (pe_c C_p_ladder (hr.mono (by decide)) gd (by rfl) (pa_cons (pv 5) (pa_cons (pv 6) (pa_cons (pv 7) (pa_cons (pv 8) pa_nil))))) (pe_c C_p_ladder (hr.mono (by decide)) gd (by rfl) (pa_cons (pv 9) (pa_cons (pv 6) (pa_cons (pe_op op_add (pv 7) (pe_op op_mulU (pv 6) (pv 5))) (pa_cons (pv 8) pa_nil)))))) (nomark _))
        (pss_one (ps_ret pe_bl))
        pss_nil)
      (pss_cons (ps_if (pt_cmpR op_ne (pe_op op_sub (pe_c C_p_ladder (hr.mono (by decide)) gd (by rfl) (pa_cons (pe_op op_add (pv 5) pe_int) (pa_cons (pv 6) (pa_cons (pv 7) (pa_cons (pv 8) pa_nil))))) (pe_c C_p_ladder (hr.mono (by decide)) gd (by rfl) (pa_cons (pv 5) (pa_cons (pv 6) (pa_cons (pv 7) (pa_cons (pv 8) pa_nil)))))) (pe_op op_fdU (pe_callTy call_int1 (by rfl) m_int (by decide +kernel) (pa_cons (pe_op op_add (pe_op op_mulU (pv 6) (pv 5)) (pv 7)) pa_nil)) (pv 8)) (nomark _))
        (pss_one (ps_ret pe_bl))
        pss_nil)
      (pss_cons (ps_if (pt_cmpR op_ne (pe_c C_p_ladder (hr.mono (by decide)) gd (by rfl) (pa_cons (pv 5) (pa_cons (pe_op op_add (pv 6) (pe_op op_mulU (pv 10) (pv 8))) (pa_cons (pv 7) (pa_cons (pv 8) pa_nil))))) (pe_op op_add (pe_c C_p_ladder (hr.mono (by decide)) gd (by rfl) (pa_cons (pv 5) (pa_cons (pv 6) (pa_cons (pv 7) (pa_cons (pv 8) pa_nil))))) (pe_op op_mulU (pv 10) (pe_op op_fdU (pe_callTy call_int1 (by rfl) m_int (by decide +kernel) (pa_cons (pe_op op_mulU (pv 5) (pe_op op_sub (pv 5) pe_int)) pa_nil)) pe_int))) (nomark _))
        (pss_one (ps_ret pe_bl))
        pss_nil)
      (pss_cons (ps_if (pt_cmpR op_ne (pe_c C_p_ladder (hr.mono (by decide)) gd (by rfl) (pa_cons (pv 5) (pa_cons (pv 6) (pa_cons (pe_op op_add (pv 7) (pe_op op_mulU (pv 10) (pv 8))) (pa_cons (pv 8) pa_nil))))) (pe_op op_add (pe_c C_p_ladder (hr.mono (by decide)) gd (by rfl) (pa_cons (pv 5) (pa_cons (pv 6) (pa_cons (pv 7) (pa_cons (pv 8) pa_nil))))) (pe_op op_mulU (pv 10) (pv 5))) (nomark _))
        (pss_one (ps_ret pe_bl))
        pss_nil)
      (pss_cons (ps_if (pt_cmpR op_ne (pe_c C_p_ladder (hr.mono (by decide)) gd (by rfl) (pa_cons (pv 5) (pa_cons (pe_op op_sub pe_int (pv 6)) (pa_cons (pe_op op_sub (pe_op op_sub pe_int (pv 7)) pe_int) (pa_cons (pv 8) pa_nil))))) (pe_op op_sub (pe_op op_sub pe_int (pe_c C_p_ladder (hr.mono (by decide)) gd (by rfl) (pa_cons (pv 5) (pa_cons (pv 6) (pa_cons (pv 7) (pa_cons (pv 8) pa_nil)))))) (pv 5)) (nomark _))
        (pss_one (ps_ret pe_bl))
        pss_nil)
      (pss_cons (ps_par (i := 11) (j := 12) rfl sc_law.nd rfl rfl (by decide) rfl rfl (pa_cons (pe_op op_add pe_int (pe_c C_l_pick (hr.mono (by decide)) gd (by rfl) (pa_cons (pv 1) (pa_cons (pe_op op_pow pe_int pe_int) pa_nil)))) (pa_cons (pe_op op_add pe_int (pe_c C_l_pick (hr.mono (by decide)) gd (by rfl) (pa_cons (pv 1) (pa_cons (pe_op op_pow pe_int pe_int) pa_nil)))) pa_nil)) rfl)
      (pss_cons (ps_set (i := 4) sc_law.nd rfl (.inl rfl) (pe_c C_l_common (hr.mono (by decide)) gd (by rfl) (pa_cons (pv 11) (pa_cons (pv 12) pa_nil))))
      (pss_cons (ps_par (i := 11) (j := 12) rfl sc_law.nd rfl rfl (by decide) rfl rfl (pa_cons (pe_op op_fdU (pv 11) (pv 4)) (pa_cons (pe_op op_fdU (pv 12) (pv 4)) pa_nil)) rfl)
      (pss_one (ps_ret (pe_cmpR op_eq (pe_c C_p_ladder (hr.mono (by decide)) gd (by rfl) (pa_cons (pv 12) (pa_cons (pv 11) (pa_cons pe_int (pa_cons (pv 12) pa_nil))))) (pe_op op_fdU (pe_callTy call_int1 (by rfl) m_int (by decide +kernel) (pa_cons (pe_op op_mulU (pe_op op_sub (pv 11) pe_int) (pe_op op_sub (pv 12) pe_int)) pa_nil)) pe_int) (nomark _))))))))))))))))), ?_⟩
    have t9 : (10 : Int) ^ Int.toNat 9 = 1000000000 := by decide
    have t6 : (10 : Int) ^ Int.toNat 6 = 1000000 := by decide
    refine ⟨_, rfl, a, ns, rfl, hS, hlen, fun H1 p c sm np nc S => ?_⟩
    have R0 : Run p c H1 H1 := .refl S
    refine ⟨_, rfl, by decide, by decide, for_range (lo := 0) (n := 4) (fun i σ H' => Run p c H1 H' ∧ ∃ y2 y5 y6 y7 y8, σ = [some (.ref a), some (.ref p), y2, none, none, y5, y6, y7, y8, none, none, none, none])
      ⟨R0, none, none, none, none, none, rfl⟩ (fun i σ H' hi z => ?_) (fun σ H' z => ?_)⟩
    · obtain ⟨R, y2, y5, y6, y7, y8, rfl⟩ := z
      refine ⟨_, rfl, p, c, 30, rfl, R.src, by decide, fun H2 n R2 n0 n1 => ?_⟩
      refine ⟨_, rfl, p, c, 20, rfl, R2.src, by decide, fun H3 m R3 m0 m1 => ⟨_, _, rfl, rfl, by show 2 ≤ sizeLine; decide, fun t1 nt1 => ?_⟩⟩
      have R4 : Run p c H1 (upd H3 t1 (.tup [.int n, .int (1 + m)])) := ((R.trans R2).trans R3).new nt1
      refine ⟨t1, _, rfl, .inl (.inl upd_same), rfl, _, _, rfl, _, _, rfl, rfl, ?_⟩
      refine ⟨_, rfl, p, c, 61, rfl, R4.src, by decide, fun H5 x R5 x0 x1 => ⟨_, _, rfl, rfl, ?_⟩⟩
      refine ⟨_, rfl, p, c, 81, rfl, R5.src, by decide, fun H6 y R6 z0 z1 => ⟨_, _, rfl, rfl, by show 2 ≤ sizeLine; decide, fun t2 nt2 => ?_⟩⟩
      have R7 : Run p c H1 (upd H6 t2 (.tup [.int (x - 30), .int (y - 40)])) := ((R4.trans R5).trans R6).new nt2
      refine ⟨t2, _, rfl, .inl (.inl upd_same), rfl, _, _, rfl, _, _, rfl, rfl, ?_⟩
      have sm' : ∀ z : Int, -100 < z → z < 100 → Small z := fun z h1 h2 => Nat.lt_of_lt_of_le (show z.natAbs < 100 by omega) (Nat.le_trans (show 100 ≤ 2 ^ 7 by decide) (Nat.pow_le_pow_right (by decide) (by decide)))
      refine ⟨_, rfl, _, rfl, _, rfl, _, rfl, n, x - 30, y - 40, 1 + m, rfl, n0, by omega, sm' _ (by omega) (by omega), sm' _ (by omega) (by omega), sm' _ (by omega) (by omega), sm' _ (by omega) (by omega), fun H8 s8 => ?_⟩
      have R8 := R7.same s8
      -- the sum
      refine ⟨_, rfl, n, rfl, by omega, by omega, fun D nD => ?_⟩
      refine lc_range (lo := 0) (n := n.toNat) (fun i H' => Same H8 H' ∧ H' D = some (.lst (((List.range i).map fun k : Nat => ((x - 30) * (k : Int) + (y - 40)) / (1 + m)).map V.int)))
        ⟨same_new nD, upd_same⟩ (fun k H' hk z => ?_) (fun H' z => ?_)
      · obtain ⟨s9, hD⟩ := z
        refine ⟨rfl, yes_ite ⟨_, rfl, _, rfl, _, _, rfl, rfl, .l (by omega) (by omega), _, rfl, _, _, rfl, rfl, .inl ⟨_, rfl, _, rfl, _, _, rfl, rfl, .s (by omega) (by omega) (by omega), _, hD, ?_, ?_, ?_⟩⟩⟩
        · exact small1000 (by simp; omega)
        · intro b o e
          rw [upd_ne (ne_of_none e nD)]
          exact s9 _ _ e
        · rw [upd_same, List.range_succ, List.map_append, List.map_append]
          show some (HO.lst (_ ++ [V.int (((x - 30) * (0 + (k : Int)) + (y - 40)).fdiv (1 + m))])) = some (HO.lst (_ ++ [V.int (((x - 30) * (k : Int) + (y - 40)) / (1 + m))]))
          rw [fdiv_pos (by omega), Int.zero_add]
      · obtain ⟨s9, hD⟩ := z
        refine ⟨D, _, rfl, .inl (.inl hD), rfl, _, rfl, ?_⟩
        refine iteNS (congrArg V.int ?_) ?_
        · rw [Lad.range_sum]
          rfl
        · exact ⟨R8.same s9, _, _, _, _, _, rfl⟩
    · obtain ⟨R, y2, y5, y6, y7, y8, rfl⟩ := z
      -- great numbers
      refine ⟨_, rfl, by decide, by decide, fun D nD => ?_⟩
      obtain ⟨Dp, Dc⟩ := R.src.nep nD
      refine lc_range (lo := 0) (n := 4) (fun i H2 => Run p c H' H2 ∧ ∃ gs : List Int, H2 D = some (.lst (gs.map V.int)) ∧ gs.length = i ∧ ∀ g ∈ gs, 10 ^ 39 ≤ g ∧ g < 10 ^ 40)
        ⟨(Run.refl R.src).new nD, [], upd_same, rfl, fun _ z => by cases z⟩ (fun i H2 hi z => ?_) (fun H2 z => ?_)
      · obtain ⟨R2, gs, hD, hl, hg⟩ := z
        refine ⟨rfl, yes_ite ⟨_, _, rfl, rfl, ⟨by decide, by decide, by decide⟩, ?_⟩⟩
        refine ⟨_, rfl, _, _, rfl, rfl, ⟨by decide, by decide, by decide⟩, p, c, _, rfl, R2.src, by decide, fun H3 u R3 u0 u1 => ?_⟩
        rw [t9] at u1
        refine ⟨_, _, rfl, rfl, ⟨by decide, by decide, by decide⟩, _, _, rfl, rfl, .l (by omega) (by omega), _, _, rfl, rfl, ?_⟩
        refine ⟨_, rfl, _, _, rfl, rfl, ⟨by decide, by decide, by decide⟩, p, c, _, rfl, R3.src, by decide, fun H4 v R4 v0 v1 => ?_⟩
        rw [t9] at v1
        have hD4 : H4 D = some (.lst (gs.map V.int)) := R4.keep _ _ Dp Dc (R3.keep _ _ Dp Dc hD)
        refine ⟨_, _, rfl, rfl, _, hD4, ?_, ?_, gs ++ [10 ^ 39 + u * 10 ^ 20 + v], ?_, by rw [List.length_append, hl]; rfl, ?_⟩
        · exact small1000 (by rw [List.length_map]; omega)
        · refine ⟨?_, fun b o n1 n2 e => ?_⟩
          · obtain ⟨l, m, t, ks, h1, h2⟩ := R4.src
            exact ⟨l, m, t, ks, by rw [upd_ne Dp.symm]; exact h1, by rw [upd_ne Dc.symm]; exact h2⟩
          · rw [upd_ne (ne_of_none e nD)]
            exact R4.keep _ _ n1 n2 (R3.keep _ _ n1 n2 (R2.keep _ _ n1 n2 e))
        · rw [upd_same, List.map_append]
          rfl
        · intro g mg'
          rcases List.mem_append.mp mg' with z | z
          · exact hg g z
          · rw [List.mem_singleton.mp z]
            omega
      · obtain ⟨R2, gs, hD, hl, hg⟩ := z
        obtain ⟨g0, g1, g2, g3, rfl⟩ : ∃ g0 g1 g2 g3, gs = [g0, g1, g2, g3] := by
          match gs, hl with
          | [g0, g1, g2, g3], _ => exact ⟨g0, g1, g2, g3, rfl⟩
        have b0 := hg g0 (by simp)
        have b1 := hg g1 (by simp)
        have b2 := hg g2 (by simp)
        have b3 := hg g3 (by simp)
        have up : ∀ g : Int, 10 ^ 39 ≤ g ∧ g < 10 ^ 40 → g.natAbs < 2 ^ 133 := fun g h => Nat.lt_of_lt_of_le (show g.natAbs < 10 ^ 40 by omega) (by decide)
        have R3 := R.trans R2
        have hS2 : ∀ {H' : Hp}, H' D = some (.lst ([g0, g1, g2, g3].map V.int)) → SqL K H' D ([g0, g1, g2, g3].map V.int) := fun h => .inl (.inl h)
        -- n, a, b, m
        refine ⟨_, rfl, .inl ⟨D, _, 0, .int g0, rfl, rfl, hS2 hD, atI_nat (j := 0) rfl, ?_⟩⟩
        refine ⟨_, rfl, .inl ⟨D, _, 1, .int g1, rfl, rfl, hS2 hD, atI_nat (j := 1) rfl, ?_⟩⟩
        refine ⟨_, rfl, .inl ⟨D, _, 2, .int g2, rfl, rfl, hS2 hD, atI_nat (j := 2) rfl, ?_⟩⟩
        refine ⟨_, _, rfl, rfl, by show 2 ≤ sizeLine; decide, fun l nl => ?_⟩
        have R4 := R3.new (o := .lst [.int 1, .int (0 - 1)]) nl
        obtain ⟨lp, lc⟩ := R3.src.nep nl
        refine ⟨_, rfl, p, c, 2, rfl, R4.src, by decide, fun H5 u R5 u0 u1 => ?_⟩
        have hl5 : H5 l = some (.lst [.int 1, .int (0 - 1)]) := R5.keep _ _ lp lc upd_same
        have hD5 : H5 D = some (.lst ([g0, g1, g2, g3].map V.int)) := R5.keep _ _ Dp Dc (by rw [upd_ne (ne_of_none hD nl)]; exact hD)
        obtain ⟨s, hs, hat⟩ : ∃ s : Int, (s = 1 ∨ s = -1) ∧ atI [V.int 1, V.int (0 - 1)] u = some (.int s) := by
          rcases (show u = 0 ∨ u = 1 by omega) with rfl | rfl
          · exact ⟨1, .inl rfl, atI_nat (j := 0) rfl⟩
          · exact ⟨-1, .inr rfl, atI_nat (j := 1) rfl⟩
        refine .inl ⟨l, _, u, .int s, rfl, rfl, .inl (.inl hl5), hat, ?_⟩
        refine ⟨_, _, rfl, rfl, .r (by omega) (by omega), ?_⟩
        refine ⟨_, rfl, .inl ⟨D, _, 3, .int g3, rfl, rfl, hS2 hD5, atI_nat (j := 3) rfl, by show 4 ≤ sizeLine; decide, fun t nt => ?_⟩⟩
        have R6 := (R4.trans R5).new (o := .tup [.int g0, .int g1, .int (g2 * s), .int g3]) nt
        refine ⟨t, _, rfl, .inl (.inl upd_same), rfl, _, _, rfl, _, _, rfl, _, _, rfl, _, _, rfl, rfl, ?_⟩
        obtain ⟨b, eb⟩ : ∃ b, b = g2 * s := ⟨_, rfl⟩
        have sb : b.natAbs < 2 ^ 133 := by
          have := up g2 b2
          rcases hs with rfl | rfl <;> rw [eb] <;> simpa using this
        have sn := up g0 b0
        have sa := up g1 b1
        have smm := up g3 b3
        -- k, step
        refine ⟨_, rfl, _, _, rfl, rfl, ⟨by decide, by decide, by decide⟩, p, c, _, rfl, R6.src, by decide, fun H7 k R7 k0 k1 => ?_⟩
        rw [t6] at k1
        refine ⟨_, _, rfl, rfl, ⟨by decide, by decide, by decide⟩, _, _, rfl, rfl, .l (by omega) (by omega), ?_⟩
        refine ⟨_, rfl, p, c, 7, rfl, R7.src, by decide, fun H8 st R8 st0 st1 => ⟨_, _, rfl, rfl, _, _, rfl, ?_⟩⟩
        have e30 : (10 : Int) ^ Int.toNat 30 = 1000000000000000000000000000000 := by decide
        rw [e30]
        have hn : 0 ≤ g0 := by omega
        have hm : 0 < g3 := by omega
        have hk : 0 ≤ k * 1000000000000000000000000000000 := by omega
        have sk : (k * 1000000000000000000000000000000).natAbs < 2 ^ 133 := Nat.lt_of_lt_of_le (show (k * 1000000000000000000000000000000).natAbs < 10 ^ 40 by omega) (by decide)
        have small1 : ∀ z : Int, z.natAbs < 2 ^ 135 → Small z := fun z h => abs_up h
        have s1 : (1 : Int).natAbs < 2 ^ 133 := by decide
        have SN : Small g0 := abs_up sn
        have SA : Small g1 := abs_up sa
        have SB : Small b := abs_up sb
        have SM : Small g3 := abs_up smm
        have SK : Small (k * 1000000000000000000000000000000) := abs_up sk
        have SNK : Small (g0 + k * 1000000000000000000000000000000) := abs_up (abs_add sn sk)
        have san : (g1 * g0).natAbs < 2 ^ 266 := wide_lt sa sn
        have SBN : Small (b + g1 * g0) := abs_up (abs_add (abs_up (b := 266) sb) san)
        have SN1 : Small (g0 + 1) := abs_up (abs_add sn s1)
        have sst : (st - 3).natAbs < 2 ^ 4 := by omega
        have ssm : ((st - 3) * g3).natAbs < 2 ^ 137 := wide_lt sst smm
        have SAS : Small (g1 + (st - 3) * g3) := abs_up (abs_add (abs_up (b := 137) sa) ssm)
        have SBS : Small (b + (st - 3) * g3) := abs_up (abs_add (abs_up (b := 137) sb) ssm)
        have SNA : Small (0 - g1) := Nat.lt_of_le_of_lt (show (0 - g1).natAbs ≤ g1.natAbs by omega) SA
        have snb : (0 - b).natAbs < 2 ^ 133 := Nat.lt_of_le_of_lt (show (0 - b).natAbs ≤ b.natAbs by omega) sb
        have SNB : Small (0 - b - 1) := abs_up (abs_add snb (show (-1 : Int).natAbs < 2 ^ 133 by decide))
        have sn1 : (g0 - 1).natAbs < 2 ^ 134 := abs_add sn (show (-1 : Int).natAbs < 2 ^ 133 by decide)
        have M1 : MlOk g1 g0 := .w 133 133 sa sn
        have M2 : ∀ z, MlOk (st - 3) z := fun z => .l (by omega) (by omega)
        have M3 : MlOk g0 (g0 - 1) := .w 133 134 sn sn1
        have D1 : ∀ z, DivOk z g3 := fun z => .w 133 (by omega) smm
        have D2 : ∀ z, DivOk z 2 := fun z => .s (by decide) (by decide) (by decide)
        subst eb
        -- 1
        walk_at "rd"
        refine ⟨_, _, _, _, rfl, by omega, hm, SNK, SA, SB, SM, fun H9 s9 => ?_⟩
        walk_at "rd"
        refine ⟨_, _, _, _, rfl, hn, hm, SN, SA, SB, SM, fun H10 s10 => ?_⟩
        walk_at "rd"
        refine ⟨_, _, _, _, rfl, hk, hm, SK, SA, SBN, SM, fun H11 s11 => ⟨_, _, rfl, rfl, rfl, _, rfl, iteNS (congrArg V.int (chk1 hn hk)) ?_⟩⟩
        -- 2
        walk_at "rd"
        refine ⟨_, _, _, _, rfl, by omega, hm, SN1, SA, SB, SM, fun H12 s12 => ?_⟩
        walk_at "rd"
        refine ⟨_, _, _, _, rfl, hn, hm, SN, SA, SB, SM, fun H13 s13 => ?_⟩
        walk_at "rd"
        refine .inl ⟨_, rfl, _, rfl, _, _, rfl, rfl, D1 _, rfl, _, rfl, iteNS (congrArg V.int (chk2 hn hm)) ?_⟩
        -- 3
        refine ⟨_, rfl, _, rfl, _, rfl, _, rfl, _, _, rfl, rfl, M2 _, _, _, rfl, rfl, _, rfl, _, rfl, _, _, _, _, rfl, hn, hm, SN, SAS, SB, SM, fun H14 s14 => ?_⟩
        walk_at "rd"
        refine ⟨_, _, _, _, rfl, hn, hm, SN, SA, SB, SM, fun H15 s15 => ?_⟩
        refine ⟨_, rfl, _, rfl, _, rfl, _, _, rfl, rfl, _, _, rfl, rfl, M3, .inl ⟨_, rfl, _, _, rfl, rfl, D2 _, _, _, rfl, rfl, M2 _, _, _, rfl, rfl, rfl, _, rfl, iteNS (congrArg V.int (chk3 hn hm)) ?_⟩⟩
        -- 4
        refine ⟨_, rfl, _, rfl, _, rfl, _, rfl, _, rfl, _, _, rfl, rfl, M2 _, _, _, rfl, rfl, _, rfl, _, _, _, _, rfl, hn, hm, SN, SA, SBS, SM, fun H16 s16 => ?_⟩
        walk_at "rd"
        refine ⟨_, _, _, _, rfl, hn, hm, SN, SA, SB, SM, fun H17 s17 => ?_⟩
        refine ⟨_, rfl, _, rfl, _, _, rfl, rfl, M2 _, _, _, rfl, rfl, rfl, _, rfl, iteNS (congrArg V.int (chk4 hn hm)) ?_⟩
        -- 5
        walk_at "rd"
        refine ⟨_, _, _, _, rfl, hn, hm, SN, SNA, SNB, SM, fun H18 s18 => ?_⟩
        walk_at "rd"
        refine ⟨_, _, _, _, rfl, hn, hm, SN, SA, SB, SM, fun H19 s19 => ?_⟩
        refine ⟨_, _, rfl, rfl, _, rfl, _, _, rfl, rfl, rfl, _, rfl, iteNS (congrArg V.int (chk5 hn hm)) ?_⟩
        -- one, other
        have S19 : Src H19 p c := ((((((((((R8.src.same s9).same s10).same s11).same s12).same s13).same s14).same s15).same s16).same s17).same s18).same s19
        refine ⟨_, rfl, _, _, rfl, rfl, ⟨by decide, by decide, by decide⟩, p, c, _, rfl, S19, by decide, fun H20 x R20 x0 x1 => ⟨_, _, rfl, rfl, ?_⟩⟩
        rw [t9] at x1
        refine ⟨_, rfl, _, _, rfl, rfl, ⟨by decide, by decide, by decide⟩, p, c, _, rfl, R20.src, by decide, fun H21 y R21 z0 z1 => ⟨_, _, rfl, rfl, _, _, rfl, ?_⟩⟩
        rw [t9] at z1
        -- both
        refine ⟨_, rfl, _, rfl, _, _, rfl, ?_⟩
        generalize eg : Nat.gcd (1 + x).natAbs (1 + y).natAbs = g
        have g0' : 0 < g := by
          rw [← eg]
          exact Nat.gcd_pos_of_pos_left _ (by omega)
        have gx : g ∣ (1 + x).natAbs := by
          rw [← eg]
          exact Nat.gcd_dvd_left _ _
        have gy : g ∣ (1 + y).natAbs := by
          rw [← eg]
          exact Nat.gcd_dvd_right _ _
        have glx := Nat.le_of_dvd (by omega) gx
        have dg : ∀ z, DivOk z (g : Int) := fun z => .s (by omega) (by omega) (by omega)
        refine ⟨_, rfl, _, rfl, _, _, rfl, rfl, dg _, _, rfl, _, rfl, _, _, rfl, rfl, dg _, _, _, rfl, ?_⟩
        have last := Lad.lad_common (x := 1 + x) (y := 1 + y) (by omega) (by omega)
        rw [eg] at last
        have ex : (1 + x).fdiv (g : Int) = (1 + x) / (g : Int) := fdiv_pos (by omega)
        have ey : (1 + y).fdiv (g : Int) = (1 + y) / (g : Int) := fdiv_pos (by omega)
        rw [← ex, ← ey] at last
        have px : ((1 + x).fdiv (g : Int)).natAbs < 2 ^ 31 := by
          rw [ex]
          exact Nat.lt_of_le_of_lt (div_le_abs (by omega)) (by omega)
        have py : ((1 + y).fdiv (g : Int)).natAbs < 2 ^ 31 := by
          rw [ey]
          exact Nat.lt_of_le_of_lt (div_le_abs (by omega)) (by omega)
        have hy : 0 < (1 + y).fdiv (g : Int) := by
          rw [ey]
          obtain ⟨r, hr⟩ := gy
          have : (1 + y) = (g : Int) * (r : Int) := by
            have h1 : ((1 + y).natAbs : Int) = ((g * r : Nat) : Int) := by rw [hr]
            rw [Int.natCast_mul] at h1
            omega
          rw [this, Int.mul_ediv_cancel_left _ (by omega)]
          rcases Nat.eq_zero_or_pos r with z | z
          · rw [z, Nat.mul_zero] at hr
            omega
          · omega
        obtain ⟨X1, hX⟩ : ∃ X1, X1 = (1 + x).fdiv (g : Int) := ⟨_, rfl⟩
        obtain ⟨Y1, hY⟩ : ∃ Y1, Y1 = (1 + y).fdiv (g : Int) := ⟨_, rfl⟩
        rw [← hX] at px last
        rw [← hY] at py hy last
        have hy0 : 0 ≤ Y1 := Int.le_of_lt hy
        have M4 : MlOk (X1 - 1) (Y1 - 1) := .w 32 32 (abs_add px (show (-1 : Int).natAbs < 2 ^ 31 by decide)) (abs_add py (show (-1 : Int).natAbs < 2 ^ 31 by decide))
        have q1 : Small Y1 := abs_up py
        have q2 : Small X1 := abs_up px
        have q0 : Small 0 := by decide
        subst hX hY
        refine ⟨_, rfl, _, rfl, _, rfl, _, _, _, _, rfl, hy0, hy, q1, q2, q0, q1, fun H22 s22 => ?_⟩
        refine ⟨_, rfl, _, _, rfl, rfl, _, rfl, _, _, rfl, rfl, _, _, rfl, rfl, M4, .inl ⟨_, rfl, _, _, rfl, rfl, D2 _, rfl, ?_⟩⟩
        rw [← fdiv_pos (show (0 : Int) < 2 by decide)] at last
        have fin : Q (V.bl (decide (V.int (Lad.lad ((1 + y).fdiv (g : Int)).toNat ((1 + x).fdiv (g : Int)) 0 ((1 + y).fdiv (g : Int))) =
            V.int ((((1 + x).fdiv (g : Int) - 1) * ((1 + y).fdiv (g : Int) - 1)).fdiv 2)))) H22 := by
          rw [last, decide_eq_true rfl]
          exact q _
        exact fin
end
/-! ### what the top has written; the end -/
theorem all_mk {l : PySem.W.OpenLaw} {w : World} {K : PySem.W.Frag} {h : Heap} {mg : Str → Option Value} {fa : Addr} (X : K.In h) (G : h.Ns mainGlobals mg) (hfa : mg "law" = some (.ref fa))
    {f0 : Addr} {od0 an0 : Option Addr} {sl0 : Array (Option Value)} {oc0 kV0 dc0 pm0 cd0 ct0 : Value}
    (a0 : PySem.W.nsIn K mainGlobals "ladder" = some (some (.ref f0)))
    (l0 : K.lookup f0 = some ⟨oc0, od0, .func (PySem.W.fnOf "ladder" "ladder" (defArgs s_p_ladder) (defBody s_p_ladder) (defScope s_p_ladder) .none kV0 dc0 pm0 an0 cd0 ct0), sl0⟩)
    (c0 : PySem.W.codeIn K cd0 "ladder" = true) (k0 : PySem.W.keepIn K (.ref f0) = true)
    {f1 : Addr} {od1 an1 : Option Addr} {sl1 : Array (Option Value)} {oc1 kV1 dc1 pm1 cd1 ct1 : Value}
    (a1 : PySem.W.nsIn K mainGlobals "_law_open_cells" = some (some (.ref f1)))
    (l1 : K.lookup f1 = some ⟨oc1, od1, .func (PySem.W.fnOf "_law_open_cells" "_law_open_cells" (defArgs s_l_open_cells) (defBody s_l_open_cells) (defScope s_l_open_cells) .none kV1 dc1 pm1 an1 cd1 ct1), sl1⟩)
    (c1 : PySem.W.codeIn K cd1 "_law_open_cells" = true) (k1 : PySem.W.keepIn K (.ref f1) = true)
    {f2 : Addr} {od2 an2 : Option Addr} {sl2 : Array (Option Value)} {oc2 kV2 dc2 pm2 cd2 ct2 : Value}
    (a2 : PySem.W.nsIn K mainGlobals "_law_pick" = some (some (.ref f2)))
    (l2 : K.lookup f2 = some ⟨oc2, od2, .func (PySem.W.fnOf "_law_pick" "_law_pick" (defArgs s_l_pick) (defBody s_l_pick) (defScope s_l_pick) .none kV2 dc2 pm2 an2 cd2 ct2), sl2⟩)
    (c2 : PySem.W.codeIn K cd2 "_law_pick" = true) (k2 : PySem.W.keepIn K (.ref f2) = true)
    {f3 : Addr} {od3 an3 : Option Addr} {sl3 : Array (Option Value)} {oc3 kV3 dc3 pm3 cd3 ct3 : Value}
    (a3 : PySem.W.nsIn K mainGlobals "_law_common" = some (some (.ref f3)))
    (l3 : K.lookup f3 = some ⟨oc3, od3, .func (PySem.W.fnOf "_law_common" "_law_common" (defArgs s_l_common) (defBody s_l_common) (defScope s_l_common) .none kV3 dc3 pm3 an3 cd3 ct3), sl3⟩)
    (c3 : PySem.W.codeIn K cd3 "_law_common" = true) (k3 : PySem.W.keepIn K (.ref f3) = true)
    {f4 : Addr} {od4 an4 : Option Addr} {sl4 : Array (Option Value)} {oc4 kV4 dc4 pm4 cd4 ct4 : Value}
    (a4 : PySem.W.nsIn K mainGlobals "law" = some (some (.ref f4)))
    (l4 : K.lookup f4 = some ⟨oc4, od4, .func (PySem.W.fnOf "law" "law" (defArgs s_law) (defBody s_law) (defScope s_law) .none kV4 dc4 pm4 an4 cd4 ct4), sl4⟩)
    (c4 : PySem.W.codeIn K cd4 "law" = true) (k4 : PySem.W.keepIn K (.ref f4) = true)
    (z_abs : PySem.W.nsIn K mainGlobals "abs" = some none)
    (z_int : PySem.W.nsIn K mainGlobals "int" = some none)
    (z_len : PySem.W.nsIn K mainGlobals "len" = some none)
    (z_range : PySem.W.nsIn K mainGlobals "range" = some none)
    (z_sum : PySem.W.nsIn K mainGlobals "sum" = some none) :
    ∃ fd : FuncData, (∀ (s : Shared) (v : Value), BindsTo s fd ⟨[v], []⟩ [("_law_script", v)]) ∧ ∀ base : Heap, K.In base → base.Ns mainGlobals mg →
      FnG CX0 l.prog w K mg base 2 fa fd ["_law_script"] (spLaw K) := by
  have e := hfa.symm.trans (PySem.W.mg_of X G a4)
  cases e
  have B : Bi mg := ⟨PySem.W.mg_none_of X G z_abs, PySem.W.mg_none_of X G z_int, PySem.W.mg_none_of X G z_len, PySem.W.mg_none_of X G z_range, PySem.W.mg_none_of X G z_sum⟩
  have D0 := df_mk (st := s_p_ladder) (ps := ["n", "a", "b", "m"]) X G a0 l0 c0 k0 (fun _ _ _ _ _ _ us hl => match us, hl with | [_, _, _, _], _ => rfl)
  have D1 := df_mk (st := s_l_open_cells) (ps := ["_law_script"]) X G a1 l1 c1 k1 (fun _ _ _ _ _ _ us hl => match us, hl with | [_], _ => rfl)
  have D2 := df_mk (st := s_l_pick) (ps := ["_law_source", "_law_most"]) X G a2 l2 c2 k2 (fun _ _ _ _ _ _ us hl => match us, hl with | [_, _], _ => rfl)
  have D3 := df_mk (st := s_l_common) (ps := ["_law_a", "_law_b"]) X G a3 l3 c3 k3 (fun _ _ _ _ _ _ us hl => match us, hl with | [_, _], _ => rfl)
  have FL := fun_mk (st := s_law) l4 c4 k4
  refine ⟨PySem.W.fnOf "law" "law" (defArgs s_law) (defBody s_law) (defScope s_law) .none kV4 dc4 pm4 an4 cd4 ct4, fun s v => .of_eq rfl, fun base _ _ => ?_⟩
  have C_p_ladder := ok_p_ladder (P := l.prog) (w := w) (base := base) B D0 
  have C_l_open_cells := ok_l_open_cells (P := l.prog) (w := w) (base := base) B D1 
  have C_l_pick := ok_l_pick (P := l.prog) (w := w) (base := base) B D2 
  have C_l_common := ok_l_common (P := l.prog) (w := w) (base := base) B D3 
  exact ok_law B FL C_l_open_cells C_l_common C_p_ladder C_l_pick
end Qk85
open PySem PySem.W PyProof.Rows
set_option maxHeartbeats 0 in
theorem PySem.Challenge.cw_plateheaps_k85_ladders_holds : PySem.Challenge.rw_plateheaps_k85_ladders.Holds := by
  w_on; o_law; k_head; (case hw => w_witness2)
  k_fill
  refine Pg.walk_end (l := PySem.Challenge.rw_plateheaps_k85_ladders) (n := 63) (k := 2) (x := "_law_script") (sp := fun w => Pg.spLaw _) rfl (by decide) rfl ⟨rfl, by decide, by decide⟩ (fun w h Y => PySem.W.kIn_of Y) ?F (fun _ _ a ns hl _ hS => ⟨a, ns, rfl, hS, hl, fun _ => rfl⟩)
  case F =>
    intro w mg fa h KX G hmg
    refine' Qk85.all_mk KX G hmg ?a0 ?l0 ?c0 ?k0 ?a1 ?l1 ?c1 ?k1 ?a2 ?l2 ?c2 ?k2 ?a3 ?l3 ?c3 ?k3 ?a4 ?l4 ?c4 ?k4 ?z_abs ?z_int ?z_len ?z_range ?z_sum
    (case a0 => k_is); (case l0 => k_is); (case c0 => k_is); (case k0 => k_is); (case a1 => k_is); (case l1 => k_is); (case c1 => k_is); (case k1 => k_is); (case a2 => k_is); (case l2 => k_is); (case c2 => k_is); (case k2 => k_is); (case a3 => k_is); (case l3 => k_is); (case c3 => k_is); (case k3 => k_is); (case a4 => k_is); (case l4 => k_is); (case c4 => k_is); (case k4 => k_is); (case z_abs => k_is); (case z_int => k_is); (case z_len => k_is); (case z_range => k_is); (case z_sum => k_is)
