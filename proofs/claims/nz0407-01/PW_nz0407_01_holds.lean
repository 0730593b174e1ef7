import PyProof.Rows.All
import Wide.All
import OpenK.AllK
import Wide.FinOn
import Lean
import PySem.Challenge.RW_nz0407_01
open PySem PySem.W PySem.Calls PyProof.Rows
set_option Elab.async false
set_option maxRecDepth 100000
set_option linter.unusedSimpArgs false
set_option linter.unusedVariables false
set_option maxHeartbeats 4000000
namespace Mine
def keepSt : Stmt → Bool
  | .FunctionDef .. => true
  | .ClassDef .. => true
  | _ => false
def view : Program := { PySem.Challenge.rw_nz0407_01.row.toRowW.prog with main := { PySem.Challenge.rw_nz0407_01.row.toRowW.prog.main with body := PySem.Challenge.rw_nz0407_01.row.toRowW.prog.main.body.filter keepSt } }
local macro_rules | `(tactic| o_law) => `(tactic| refine holds_law (by decide +kernel) fun said => ?_)
local macro_rules | `(tactic| o_head $H) => do
  let hw := Lean.mkIdent `hw
  let hc := Lean.mkIdent `hc
  `(tactic| (
    refine holds_open (q := Mine.view) (loose := []) (Xt := fun s => xlAt Mine.view [] s && recOk (RowW.records PySem.Challenge.rw_nz0407_01.row.toRowW) s) (XP := XL Mine.view []) (Yf := Hook.obs $H) (Ya := Hook.val $H) (YP := Hook.says $H) (N := 3928) ?hl (Hook.of $H) (Hook.keeps $H) (fun s e => xl_of s (Bool.and_eq_true_iff.mp e).1) XL.keeps (by rfl) (by rfl) (by rfl) (fun s e => recFacts_of (Bool.and_eq_true_iff.mp e).2) (by rfl) (by first | assumption | decide +kernel) (by decide +kernel) ⟨rfl, rfl, rfl, rfl, rfl, by decide +kernel⟩ ?$hw ?$hc
    case hl => (intro w; kernel_rfl)))
set_option maxHeartbeats 0 in
open_top hd for PySem.Challenge.rw_nz0407_01


-- LB
noncomputable abbrev Imm := Addr → Option Obj
noncomputable abbrev Ledger := List (Addr × Obj)

/-- what stands for good: the written part and the top's facts, borne by R -/
noncomputable def Stat (K : Frag) (R : Imm) : Prop :=
  ∃ hs : Heap, (∃ p loose mean mg mb, Top p loose mean mg mb hs) ∧ K.In hs ∧ CodeHd hs 328 324 ∧ CodeHd hs 321 317 ∧ ∀ a o, hs.get? a = some o → R a = some o

theorem Stat.mono {K : Frag} {R R' : Imm} (h : Stat K R) (k : ∀ a o, R a = some o → R' a = some o) : Stat K R' := by
  obtain ⟨hs, T, X, C1, C2, e⟩ := h
  exact ⟨hs, T, X, C1, C2, fun a o q => k a o (e a o q)⟩

structure Ok (K : Frag) (R : Imm) (s : Shared) : Prop where
  stat : Stat K R
  sub : ∀ a o, R a = some o → s.heap.get? a = some o

theorem Ok.K {K : Frag} {R : Imm} {s : Shared} (O : Ok K R s) : K.In s.heap := by
  obtain ⟨hs, T, X, C1, C2, e⟩ := O.stat
  exact fun a o q => O.sub a o (e a o (X a o q))
theorem Ok.nolimit {K : Frag} {R : Imm} {s : Shared} (O : Ok K R s) : s.heap.NoLimit := by
  obtain ⟨hs, ⟨p, l, me, mg, mb, T⟩, X, C1, C2, e⟩ := O.stat
  exact T.nolimit.keeps fun a o q => O.sub a o (e a o q)

/-- from se to s: only the addresses of S may have changed; R is R₀ where se had something -/
structure Out (K : Frag) (se : Shared) (S : List Addr) (R₀ R : Imm) (s : Shared) : Prop where
  ok : Ok K R s
  gens : s.gens = se.gens
  drawn : s.drawn = se.drawn
  os : s.os = se.os
  keep : ∀ a o, a ∉ S → se.heap.get? a = some o → s.heap.get? a = some o
  live : ∀ a o, se.heap.get? a = some o → ∃ o', s.heap.get? a = some o'
  old : ∀ a o, se.heap.get? a = some o → R a = R₀ a

structure Led (R : Imm) (led : Ledger) (s : Shared) : Prop where
  nd : (led.map (·.1)).Nodup
  here : ∀ p ∈ led, s.heap.get? p.1 = some p.2
  no : ∀ p ∈ led, R p.1 = none

/-- a frame of a def: its locals, what it may change, what it has made -/
structure Fm (K : Frag) (env : Env) (se : Shared) (S : List Addr) (R₀ R : Imm) (l : List (Str × Option Value)) (led : Ledger) (s : Shared) : Prop where
  out : Out K se S R₀ R s
  lgr : Led R led s
  loc : ∀ p ∈ led, p.1 ∈ S ∨ se.heap.get? p.1 = none
  ns : ∃ m, s.heap.Ns env.locals m ∧ ∀ p ∈ l, m p.1 = p.2
  nd : (l.map (·.1)).Nodup
  new : se.heap.get? env.locals = none
  RL : R env.locals = none
  LL : env.locals ∉ led.map (·.1)
  kind : env.scope.kind = .function
  kinds : ∀ p ∈ l, env.kindOf p.1 = some .local ∧ (p.1 == ("__debug__" : Str)) = false

noncomputable def Gl (K : Frag) (x : Str) (v : Value) : Prop :=
  nsIn K mainGlobals x = some (some v) ∨ (nsIn K mainGlobals x = some none ∧ bootBuiltins x = some v ∧ x ≠ ("__name__" : Str))
structure EG (K : Frag) (env : Env) (glb : List (Str × Value)) : Prop where
  gl : env.globals = mainGlobals
  bl : env.builtins = builtinsNs
  all : ∀ p ∈ glb, env.kindOf p.1 = some .globalImplicit ∧ (p.1 == ("__debug__" : Str)) = false ∧ Gl K p.1 p.2

structure Rm (n : Nat) (A : Around) : Prop where
  hd : A.handled = none
  dp : A.depth + n ≤ 900
  un : A.units + 16 * n + 200 ≤ 9900
theorem Rm.le {n m : Nat} {A : Around} (h : Rm n A) (k : m ≤ n) : Rm m A := ⟨h.hd, by have := h.dp; omega, by have := h.un; omega⟩
theorem Rm.deeper {n : Nat} {A : Around} {env : Env} (h : Rm (n + 1) A) : Rm n (A.deeper env) := ⟨h.hd, by have := h.dp; show A.depth + 1 + n ≤ 900; omega, by have := h.un; show A.units + 3 + 16 * n + 200 ≤ 9900; omega⟩
theorem Rm.room {n : Nat} {A : Around} (h : Rm n A) : A.depth < recursionLimit := by
  have := h.dp
  show A.depth < 1000
  omega

inductive Put (x : Str) (v : Option Value) : List (Str × Option Value) → List (Str × Option Value) → Prop
  | head {w r} : Put x v ((x, w) :: r) ((x, v) :: r)
  | tail {p r r'} : Put x v r r' → Put x v (p :: r) (p :: r')
theorem Put.keys {x : Str} {v : Option Value} {l l' : List (Str × Option Value)} (h : Put x v l l') : l'.map (·.1) = l.map (·.1) := by
  induction h with
  | head => rfl
  | tail _ ih => rw [List.map_cons, List.map_cons, ih]
theorem Put.mem {x : Str} {v : Option Value} {l l' : List (Str × Option Value)} (h : Put x v l l') (nd : (l.map (·.1)).Nodup) : ∀ p ∈ l', (p.1 = x ∧ p.2 = v) ∨ (p.1 ≠ x ∧ p ∈ l) := by
  induction h with
  | @head w r =>
    intro p hp
    rw [List.map_cons, List.nodup_cons] at nd
    rcases List.mem_cons.mp hp with rfl | hp
    · exact .inl ⟨rfl, rfl⟩
    · exact .inr ⟨fun e => nd.1 (by have z := List.mem_map_of_mem (f := Prod.fst) hp; rw [e] at z; exact z), .tail _ hp⟩
  | @tail q r r' h ih =>
    intro p hp
    rw [List.map_cons, List.nodup_cons] at nd
    rcases List.mem_cons.mp hp with rfl | hp
    · refine .inr ⟨fun e => nd.1 ?_, .head _⟩
      clear ih hp nd
      rw [e]
      induction h with
      | head => exact .head _
      | tail _ ih => exact .tail _ ih
    · rcases ih nd.2 p hp with h | ⟨h1, h2⟩
      · exact .inl h
      · exact .inr ⟨h1, .tail _ h2⟩
theorem Put.key {x : Str} {v : Option Value} {l l' : List (Str × Option Value)} (h : Put x v l l') : x ∈ l.map (·.1) := by
  induction h with
  | head => exact .head _
  | tail _ ih => exact .tail _ ih

inductive At (x : Str) (v : Value) : List (Str × Option Value) → Prop
  | head {r} : At x v ((x, some v) :: r)
  | tail {p r} : At x v r → At x v (p :: r)
theorem At.mem {x : Str} {v : Value} {l : List (Str × Option Value)} (h : At x v l) : (x, some v) ∈ l := by
  induction h with
  | head => exact .head _
  | tail _ ih => exact .tail _ ih
inductive AtG (x : Str) (v : Value) : List (Str × Value) → Prop
  | head {r} : AtG x v ((x, v) :: r)
  | tail {p r} : AtG x v r → AtG x v (p :: r)
theorem AtG.mem {x : Str} {v : Value} {l : List (Str × Value)} (h : AtG x v l) : (x, v) ∈ l := by
  induction h with
  | head => exact .head _
  | tail _ ih => exact .tail _ ih
theorem At.t2 {x : Str} {v : Value} {p q r} (h : At x v r) : At x v (p :: q :: r) := h.tail.tail
theorem At.t4 {x : Str} {v : Value} {p q p' q' r} (h : At x v r) : At x v (p :: q :: p' :: q' :: r) := h.t2.t2
theorem At.t8 {x : Str} {v : Value} {a b c d a' b' c' d' r} (h : At x v r) : At x v (a :: b :: c :: d :: a' :: b' :: c' :: d' :: r) := h.t4.t4
theorem AtG.t2 {x : Str} {v : Value} {p q r} (h : AtG x v r) : AtG x v (p :: q :: r) := h.tail.tail
theorem AtG.t4 {x : Str} {v : Value} {p q p' q' r} (h : AtG x v r) : AtG x v (p :: q :: p' :: q' :: r) := h.t2.t2
inductive InL (a : Addr) (o : Obj) : Ledger → Prop
  | head {r} : InL a o ((a, o) :: r)
  | tail {p r} : InL a o r → InL a o (p :: r)
theorem InL.mem {a : Addr} {o : Obj} {l : Ledger} (h : InL a o l) : (a, o) ∈ l := by
  induction h with
  | head => exact .head _
  | tail _ ih => exact .tail _ ih

section
variable {prog : Program} {w : World} {K : Frag} {env : Env} {se s : Shared} {S : List Addr} {R₀ R : Imm} {l l' : List (Str × Option Value)} {led led' : Ledger} {A : Around} {E : Value → Shared → Prop}

/-- the heap is the same: only tokens -/
theorem Fm.same {s' : Shared} (F : Fm K env se S R₀ R l led s) (h : s'.heap = s.heap) (g : s'.gens = s.gens) (d : s'.drawn = s.drawn) (o : s'.os = s.os) : Fm K env se S R₀ R l led s' := by
  obtain ⟨⟨⟨st, sb⟩, a1, a2, a3, a4, a5, a6⟩, ⟨b1, b2, b3⟩, c1, c2, c3, c4, c5, c6, c7, c8⟩ := F
  exact ⟨⟨⟨st, by rw [h]; exact sb⟩, g.trans a1, d.trans a2, o.trans a3, by rw [h]; exact a4, by rw [h]; exact a5, a6⟩, ⟨b1, by rw [h]; exact b2, b3⟩, c1, by rw [h]; exact c2, c3, c4, c5, c6, c7, c8⟩
theorem Fm.tok {h g d t o} {t' : Tok} (F : Fm K env se S R₀ R l led ⟨h, g, d, t, o⟩) : Fm K env se S R₀ R l led ⟨h, g, d, t', o⟩ := F.same rfl rfl rfl rfl
theorem Fm.toks {t' : Tok} (F : Fm K env se S R₀ R l led s) : Fm K env se S R₀ R l led { s with toks := t' } := F.same rfl rfl rfl rfl

/-- everything that stood stands; new things may stand beside -/
theorem Fm.ext {h' : Heap} {t' : Tok} (F : Fm K env se S R₀ R l led s) (k : ∀ b o, s.heap.get? b = some o → h'.get? b = some o) : Fm K env se S R₀ R l led { s with heap := h', toks := t' } := by
  obtain ⟨⟨⟨st, sb⟩, a1, a2, a3, a4, a5, a6⟩, ⟨b1, b2, b3⟩, c1, ⟨m, c2, c2'⟩, c3, c4, c5, c6, c7, c8⟩ := F
  exact ⟨⟨⟨st, fun a o q => k _ _ (sb a o q)⟩, a1, a2, a3, fun a o h1 h2 => k _ _ (a4 a o h1 h2), fun a o h => (a5 a o h).elim fun o' h' => ⟨o', k _ _ h'⟩, a6⟩, ⟨b1, fun p hp => k _ _ (b2 p hp), b3⟩, c1, ⟨m, c2.keeps k, c2'⟩, c3, c4, c5, c6, c7, c8⟩
theorem Fm.extH {h' : Heap} (F : Fm K env se S R₀ R l led s) (k : ∀ b o, s.heap.get? b = some o → h'.get? b = some o) : Fm K env se S R₀ R l led { s with heap := h' } := F.ext k

theorem Fm.size_led (F : Fm K env se S R₀ R l led s) : s.heap.objs.size ∉ led.map (·.1) := fun q => by
  obtain ⟨p, hp, e⟩ := List.mem_map.mp q
  exact Nat.lt_irrefl _ (e ▸ Heap.lt_size (F.lgr.here p hp))
theorem Fm.size_R (F : Fm K env se S R₀ R l led s) : R s.heap.objs.size = none := by
  cases q : R s.heap.objs.size with
  | none => rfl
  | some o => exact absurd (Heap.lt_size (F.out.ok.sub _ _ q)) (Nat.lt_irrefl _)
theorem Fm.size_se (F : Fm K env se S R₀ R l led s) : se.heap.get? s.heap.objs.size = none := by
  cases q : se.heap.get? s.heap.objs.size with
  | none => rfl
  | some o => exact (F.out.live _ _ q).elim fun o' h => absurd (Heap.lt_size h) (Nat.lt_irrefl _)
theorem Fm.size_L (F : Fm K env se S R₀ R l led s) : env.locals ≠ s.heap.objs.size := fun q => by
  obtain ⟨m, h, _⟩ := F.ns
  exact Nat.lt_irrefl _ (q ▸ h.lt)

/-- a new object onto the ledger -/
theorem Fm.push {o : Obj} (F : Fm K env se S R₀ R l led s) (hf : o.isFreed = false) : Fm K env se S R₀ R l ((s.heap.objs.size, o) :: led) { s with heap := s.heap.push o } := by
  have q1 := F.size_led; have q2 := F.size_R; have q3 := F.size_se; have q4 := F.size_L
  obtain ⟨o1, ⟨b1, b2, b3⟩, c1, c2, c3, c4, c5, c6, c7, c8⟩ := F.extH (h' := s.heap.push o) fun b o' e => Heap.get?_push_of_some _ e
  refine ⟨o1, ⟨?_, fun p hp => ?_, fun p hp => ?_⟩, fun p hp => ?_, c2, c3, c4, c5, ?_, c7, c8⟩
  · rw [List.map_cons]; exact List.nodup_cons.mpr ⟨q1, b1⟩
  · rcases List.mem_cons.mp hp with rfl | hp
    · exact Heap.get?_push_size _ hf
    · exact b2 p hp
  · rcases List.mem_cons.mp hp with rfl | hp
    · exact q2
    · exact b3 p hp
  · rcases List.mem_cons.mp hp with rfl | hp
    · exact .inr q3
    · exact c1 p hp
  · rw [List.map_cons]; exact fun h => (List.mem_cons.mp h).elim q4 c6

noncomputable def Imm.put (R : Imm) (a : Addr) (o : Obj) : Imm := fun b => if b = a then some o else R b
theorem Imm.put_self {R : Imm} {a : Addr} {o : Obj} : R.put a o a = some o := if_pos rfl
theorem Imm.put_ne {R : Imm} {a b : Addr} {o : Obj} (h : b ≠ a) : R.put a o b = R b := if_neg h
theorem Imm.put_mono {R : Imm} {a : Addr} {o : Obj} (h : R a = none) : ∀ b o', R b = some o' → R.put a o b = some o' := fun b o' e => by
  by_cases q : b = a
  · subst q; rw [h] at e; cases e
  · rw [Imm.put_ne q]; exact e

/-- a thing of the ledger is for good from here on -/
theorem Fm.freeze {a : Addr} {o : Obj} (F : Fm K env se S R₀ R l ((a, o) :: led) s) (hn : se.heap.get? a = none) : Fm K env se S R₀ (R.put a o) l led s := by
  have hR := F.lgr.no (a, o) (.head _)
  have hh := F.lgr.here (a, o) (.head _)
  obtain ⟨⟨⟨st, sb⟩, a1, a2, a3, a4, a5, a6⟩, ⟨b1, b2, b3⟩, c1, c2, c3, c4, c5, c6, c7, c8⟩ := F
  rw [List.map_cons] at b1 c6
  have b1' := List.nodup_cons.mp b1
  refine ⟨⟨⟨st.mono (Imm.put_mono hR), fun b o' e => ?_⟩, a1, a2, a3, a4, a5, fun b o' e => ?_⟩, ⟨b1'.2, fun p hp => b2 p (.tail _ hp), fun p hp => ?_⟩, fun p hp => c1 p (.tail _ hp), c2, c3, c4, ?_, fun h => c6 (.tail _ h), c7, c8⟩
  · by_cases q : b = a
    · subst q; rw [Imm.put_self] at e; cases e; exact hh
    · rw [Imm.put_ne q] at e; exact sb b o' e
  · rw [Imm.put_ne, a6 b o' e]
    intro q; rw [q, hn] at e; cases e
  · rw [Imm.put_ne]; exact b3 p (.tail _ hp)
    intro q; exact b1'.1 (by have z := List.mem_map_of_mem (f := Prod.fst) hp; rw [q] at z; exact z)
  · rw [Imm.put_ne]; exact c5
    intro q; exact c6 (q ▸ .head _)
/-- a thing of the ledger is forgotten -/
theorem Fm.drop {p : Addr × Obj} (F : Fm K env se S R₀ R l (p :: led) s) : Fm K env se S R₀ R l led s := by
  obtain ⟨o1, ⟨b1, b2, b3⟩, c1, c2, c3, c4, c5, c6, c7, c8⟩ := F
  rw [List.map_cons] at b1 c6
  exact ⟨o1, ⟨(List.nodup_cons.mp b1).2, fun p hp => b2 p (.tail _ hp), fun p hp => b3 p (.tail _ hp)⟩, fun p hp => c1 p (.tail _ hp), c2, c3, c4, c5, fun h => c6 (.tail _ h), c7, c8⟩
theorem Fm.perm (F : Fm K env se S R₀ R l led s) (hp : led'.Perm led) : Fm K env se S R₀ R l led' s := by
  obtain ⟨o1, ⟨b1, b2, b3⟩, c1, c2, c3, c4, c5, c6, c7, c8⟩ := F
  exact ⟨o1, ⟨(hp.map _).nodup_iff.mpr b1, fun p h => b2 p (hp.mem_iff.mp h), fun p h => b3 p (hp.mem_iff.mp h)⟩, fun p h => c1 p (hp.mem_iff.mp h), c2, c3, c4, c5, fun h => c6 ((hp.map _).mem_iff.mp h), c7, c8⟩
theorem Fm.swap {p q : Addr × Obj} (F : Fm K env se S R₀ R l (p :: q :: led) s) : Fm K env se S R₀ R l (q :: p :: led) s := F.perm (.swap _ _ _)

inductive UpdL (a : Addr) (o o' : Obj) : Ledger → Ledger → Prop
  | head {r} : UpdL a o o' ((a, o) :: r) ((a, o') :: r)
  | tail {p r r'} : UpdL a o o' r r' → UpdL a o o' (p :: r) (p :: r')
theorem UpdL.keys {a : Addr} {o o' : Obj} {r r' : Ledger} (h : UpdL a o o' r r') : r'.map (·.1) = r.map (·.1) := by
  induction h with
  | head => rfl
  | tail _ ih => rw [List.map_cons, List.map_cons, ih]
theorem UpdL.mem {a : Addr} {o o' : Obj} {r r' : Ledger} (h : UpdL a o o' r r') : (a, o) ∈ r := by
  induction h with
  | head => exact .head _
  | tail _ ih => exact .tail _ ih
theorem UpdL.split {a : Addr} {o o' : Obj} {r r' : Ledger} (h : UpdL a o o' r r') (nd : (r.map (·.1)).Nodup) : ∀ p ∈ r', p = (a, o') ∨ (p.1 ≠ a ∧ p ∈ r) := by
  induction h with
  | @head r =>
    intro p hp
    rw [List.map_cons, List.nodup_cons] at nd
    rcases List.mem_cons.mp hp with rfl | hp
    · exact .inl rfl
    · exact .inr ⟨fun e => nd.1 (by have z := List.mem_map_of_mem (f := Prod.fst) hp; rw [e] at z; exact z), .tail _ hp⟩
  | @tail q r r' h ih =>
    intro p hp
    rw [List.map_cons, List.nodup_cons] at nd
    rcases List.mem_cons.mp hp with rfl | hp
    · refine .inr ⟨fun e => nd.1 (by have z := List.mem_map_of_mem (f := Prod.fst) h.mem; rw [e]; exact z), .head _⟩
    · rcases ih nd.2 p hp with h | ⟨h1, h2⟩
      · exact .inl h
      · exact .inr ⟨h1, .tail _ h2⟩

/-- a thing of the ledger is changed -/
theorem Fm.upd {a : Addr} {o o' : Obj} {h' : Heap} {t' : Tok} (F : Fm K env se S R₀ R l led s) (U : UpdL a o o' led led') (hs : Heap.SameBut a s.heap h') (ho : h'.get? a = some o') : Fm K env se S R₀ R l led' { s with heap := h', toks := t' } := by
  have mm := U.mem
  have hR := F.lgr.no _ mm
  obtain ⟨⟨⟨st, sb⟩, a1, a2, a3, a4, a5, a6⟩, ⟨b1, b2, b3⟩, c1, ⟨m, c2, c2'⟩, c3, c4, c5, c6, c7, c8⟩ := F
  have hL : env.locals ≠ a := fun q => c6 (q ▸ List.mem_map_of_mem (f := Prod.fst) mm)
  refine ⟨⟨⟨st, fun b x e => (hs.2 b fun q => by rw [q, hR] at e; cases e).trans (sb b x e)⟩, a1, a2, a3, fun b x h1 e => ?_, fun b x e => ?_, a6⟩, ⟨U.keys ▸ b1, fun p hp => ?_, fun p hp => ?_⟩, fun p hp => ?_, ⟨m, c2.sameBut hs hL, c2'⟩, c3, c4, c5, U.keys ▸ c6, c7, c8⟩
  · refine (hs.2 b fun q => ?_).trans (a4 b x h1 e)
    rcases c1 _ mm with z | z
    · exact h1 (q ▸ z)
    · rw [q, z] at e; cases e
  · by_cases q : b = a
    · exact ⟨o', q ▸ ho⟩
    · obtain ⟨x', hx⟩ := a5 b x e
      exact ⟨x', (hs.2 b q).trans hx⟩
  · rcases U.split b1 p hp with rfl | ⟨q, hp⟩
    · exact ho
    · exact (hs.2 _ q).trans (b2 p hp)
  · rcases U.split b1 p hp with rfl | ⟨q, hp⟩
    · exact hR
    · exact b3 p hp
  · rcases U.split b1 p hp with rfl | ⟨q, hp⟩
    · exact c1 (a, o) mm
    · exact c1 p hp
theorem Fm.updH {a : Addr} {o o' : Obj} {h' : Heap} (F : Fm K env se S R₀ R l led s) (U : UpdL a o o' led led') (hs : Heap.SameBut a s.heap h') (ho : h'.get? a = some o') : Fm K env se S R₀ R l led' { s with heap := h' } := F.upd U hs ho

/-- a local is stored -/
theorem st_ {x : Str} {v : Value} {Q : Unit → Shared → Prop} (F : Fm K env se S R₀ R l led s) (P : Put x (some v) l l')
    (h : ∀ s', Fm K env se S R₀ R l' led s' → Q () s') : wpAny (model prog w) A (storeName env x v) Q E s := by
  obtain ⟨⟨⟨st, sb⟩, a1, a2, a3, a4, a5, a6⟩, ⟨b1, b2, b3⟩, c1, ⟨m, c2, c2'⟩, c3, c4, c5, c6, c7, c8⟩ := F
  have hx : env.kindOf x = some .local := by
    obtain ⟨p, hp, e⟩ := List.mem_map.mp P.key
    exact e ▸ (c8 p hp).1
  refine wpAny_storeName_local hx c2 (fun h' hn hs => h _ ?_) (by rw [c7]; rfl)
  refine ⟨⟨⟨st, fun b o e => (hs.2 b fun q => by rw [q, c5] at e; cases e).trans (sb b o e)⟩, a1, a2, a3, fun b o h1 e => (hs.2 b fun q => by rw [q, c4] at e; cases e).trans (a4 b o h1 e), fun b o e => ?_, a6⟩, ⟨b1, fun p hp => (hs.2 _ fun q => c6 (q ▸ List.mem_map_of_mem hp)).trans (b2 p hp), b3⟩, c1, ⟨_, hn, fun p hp => ?_⟩, P.keys ▸ c3, c4, c5, c6, c7, fun p hp => ?_⟩
  · obtain ⟨o', h'⟩ := a5 b o e
    exact ⟨o', (hs.2 b fun q => by rw [q, c4] at e; cases e).trans h'⟩
  · rcases P.mem c3 p hp with ⟨e1, e2⟩ | ⟨e1, e2⟩
    · rw [if_pos e1, e2]
    · rw [if_neg e1]; exact c2' p e2
  · rcases P.mem c3 p hp with ⟨e1, e2⟩ | ⟨e1, e2⟩
    · obtain ⟨q, hq, e⟩ := List.mem_map.mp P.key
      rw [e1, ← e]; exact c8 q hq
    · exact c8 p e2

theorem ld_ {x : Str} {pos : Pos} {v : Value} {Q : Value → Shared → Prop} (F : Fm K env se S R₀ R l led s) (hm' : At x v l) (h : Q v s) : wpAny (model prog w) A (eval (.Name x pos) env) Q E s := by
  have hm := hm'.mem
  obtain ⟨m, c2, c2'⟩ := F.ns
  exact wpAny_Name (wpAny_loadName_local F.kind (F.kinds _ hm).1 c2 (c2' _ hm) h) (F.kinds _ hm).2
theorem ldn_ {x : Str} {v : Value} {Q : Value → Shared → Prop} (F : Fm K env se S R₀ R l led s) (hm' : At x v l) (h : Q v s) : wpAny (model prog w) A (loadName env x) Q E s := by
  have hm := hm'.mem
  obtain ⟨m, c2, c2'⟩ := F.ns
  exact wpAny_loadName_local F.kind (F.kinds _ hm).1 c2 (c2' _ hm) h
theorem lg_ {x : Str} {pos : Pos} {v : Value} {Q : Value → Shared → Prop} {glb : List (Str × Value)} (F : Fm K env se S R₀ R l led s) (G : EG K env glb) (hm : AtG x v glb) (h : Q v s) : wpAny (model prog w) A (eval (.Name x pos) env) Q E s := by
  obtain ⟨g1, g2, g3⟩ := G.all _ hm.mem
  obtain ⟨hs, ⟨p, lo, me, mg, mb, T⟩, X, C1, C2, e⟩ := F.out.ok.stat
  have k : ∀ b o, hs.get? b = some o → s.heap.get? b = some o := fun a o q => F.out.ok.sub a o (e a o q)
  refine Name_function_global F.kind g1 ?_ g2
  rcases g3 with g3 | ⟨g3, g4, g5⟩
  · exact loadGlobal_global (env := env) (by rw [G.gl]; exact T.g.keeps k) (mg_of X T.g g3) h
  · exact loadGlobal_builtin (env := env) (by rw [G.gl]; exact T.g.keeps k) (mg_none_of X T.g g3) (by rw [G.bl]; exact T.b.keeps k) ((T.builtins x g5).trans g4) h

theorem ci_ {i : Int} {k pos} {Q : Value → Shared → Prop} (F : Fm K env se S R₀ R l led s) (h : ∀ t s', Fm K env se S R₀ R l led s' → Q (.int i t) s') : wpAny (model prog w) A (eval (.Constant (.int i) k pos) env) Q E s :=
  wpAny_Constant_int (h _ _ F.toks)
theorem cs_ {x : Str} {k pos} {Q : Value → Shared → Prop} (F : Fm K env se S R₀ R l led s) (h : ∀ t s', Fm K env se S R₀ R l led s' → Q (.str x t) s') : wpAny (model prog w) A (eval (.Constant (.str x) k pos) env) Q E s :=
  wpAny_Constant_str (h _ _ F.toks)

noncomputable abbrev tupOf (its : Array Value) (n : Nat) : Obj := { cls := .type "tuple", data := .seq its n }

theorem nt_ {vs : List Value} {Q : Value → Shared → Prop} (F : Fm K env se S R₀ R l led s)
    (h : ∀ a s', Fm K env se S R₀ R l ((a, tupOf vs.toArray 0) :: led) s' → se.heap.get? a = none → Q (.ref a) s') (hsz : vs.length ≤ 1000 := by first | decide | omega) : wpAny (model prog w) A (newTuple vs) Q E s :=
  wpAny_newObj_type (h _ _ (F.push rfl) F.size_se) (by show vs.toArray.size ≤ sizeLine; rw [List.size_toArray, sizeLine_eq]; omega)
theorem nl_ {vs : List Value} {Q : Value → Shared → Prop} (F : Fm K env se S R₀ R l led s)
    (h : ∀ a s', Fm K env se S R₀ R l ((a, listOf vs.toArray 0) :: led) s' → se.heap.get? a = none → Q (.ref a) s') (hsz : vs.length ≤ 1000 := by first | decide | omega) : wpAny (model prog w) A (newList vs) Q E s :=
  wpAny_newObj_type (h _ _ (F.push rfl) F.size_se) (by show vs.toArray.size ≤ sizeLine; rw [List.size_toArray, sizeLine_eq]; omega)
/-- a new tuple, for good at once -/
theorem ntR_ {vs : List Value} {Q : Value → Shared → Prop} (F : Fm K env se S R₀ R l led s)
    (h : ∀ a s', R a = none → Fm K env se S R₀ (R.put a (tupOf vs.toArray 0)) l led s' → se.heap.get? a = none → Q (.ref a) s') (hsz : vs.length ≤ 1000 := by first | decide | omega) : wpAny (model prog w) A (newTuple vs) Q E s :=
  nt_ F (fun a s' F' hn => h a s' (F'.lgr.no _ (.head _)) (F'.freeze hn) hn) hsz
theorem nlR_ {vs : List Value} {Q : Value → Shared → Prop} (F : Fm K env se S R₀ R l led s)
    (h : ∀ a s', R a = none → Fm K env se S R₀ (R.put a (listOf vs.toArray 0)) l led s' → se.heap.get? a = none → Q (.ref a) s') (hsz : vs.length ≤ 1000 := by first | decide | omega) : wpAny (model prog w) A (newList vs) Q E s :=
  nl_ F (fun a s' F' hn => h a s' (F'.lgr.no _ (.head _)) (F'.freeze hn) hn) hsz
end

-- LC
noncomputable def retK (Q : Value → Shared → Prop) : Flow → Shared → Prop
  | .ret v, s => Q v s
  | _, s => Q .none s
theorem retK_ret {Q : Value → Shared → Prop} {v : Value} {s : Shared} (h : Q v s) : retK Q (.ret v) s := h
theorem retK_next {Q : Value → Shared → Prop} {s : Shared} (h : Q .none s) : retK Q .next s := h

structure Post (K : Frag) (s : Shared) (S : List Addr) (R R' : Imm) (led' : Ledger) (s' : Shared) : Prop where
  out : Out K s S R R' s'
  lgr : Led R' led' s'
  loc : ∀ p ∈ led', p.1 ∈ S ∨ s.heap.get? p.1 = none

section
variable {prog : Program} {w : World} {K : Frag} {env : Env} {se s s' : Shared} {S S₀ : List Addr} {R₀ R R' : Imm} {l l' : List (Str × Option Value)} {led led' l1 l1' l2 : Ledger} {A : Around} {E : Value → Shared → Prop}

theorem Fm.post (F : Fm K env se S R₀ R l led s) : Post K se S R₀ R led s := ⟨F.out, F.lgr, F.loc⟩
theorem Fm.stat (F : Fm K env se S R₀ R l led s) : Ok K R s := F.out.ok
theorem Fm.front (F : Fm K env se S R₀ R l (l1 ++ l2) s) : Led R l1 s := by
  obtain ⟨a, b, c⟩ := F.lgr
  rw [List.map_append] at a
  exact ⟨(List.nodup_append.mp a).1, fun p hp => b p (List.mem_append_left _ hp), fun p hp => c p (List.mem_append_left _ hp)⟩

theorem Fm.after (F : Fm K env se S₀ R₀ R l (l1 ++ l2) s) (P : Post K s (l1.map (·.1)) R R' l1' s') : Fm K env se S₀ R₀ R' l (l1' ++ l2) s' := by
  obtain ⟨⟨⟨st, sb⟩, a1, a2, a3, a4, a5, a6⟩, ⟨b1, b2, b3⟩, c1, ⟨m, c2, c2'⟩, c3, c4, c5, c6, c7, c8⟩ := F
  obtain ⟨⟨ok', p1, p2, p3, p4, p5, p6⟩, ⟨q1, q2, q3⟩, r1⟩ := P
  rw [List.map_append] at b1 c6
  obtain ⟨n1, n2, n3⟩ := List.nodup_append.mp b1
  obtain ⟨oL, eL, epL, hL, rL⟩ := c2
  have inS : ∀ b o, se.heap.get? b = some o → b ∉ S₀ → b ∉ l1.map (·.1) := fun b o e h1 q => by
    obtain ⟨p, hp, rfl⟩ := List.mem_map.mp q
    rcases c1 p (List.mem_append_left _ hp) with z | z
    · exact h1 z
    · rw [z] at e; cases e
  have dead : ∀ b, s.heap.get? b = none → se.heap.get? b = none := fun b e => by
    cases q : se.heap.get? b with
    | none => rfl
    | some o => obtain ⟨o', h⟩ := a5 b o q; rw [e] at h; cases h
  refine ⟨⟨ok', p1.trans a1, p2.trans a2, p3.trans a3, fun b o h1 e => p4 b o (inS b o e h1) (a4 b o h1 e), fun b o e => ?_, fun b o e => ?_⟩, ⟨?_, fun p hp => ?_, fun p hp => ?_⟩, fun p hp => ?_, ⟨m, ⟨oL, eL, epL, p4 _ _ (fun q => c6 (List.mem_append_left _ q)) hL, rL⟩, c2'⟩, c3, c4, ?_, ?_, c7, c8⟩
  · obtain ⟨o', h⟩ := a5 b o e
    exact p5 b o' h
  · obtain ⟨o', h⟩ := a5 b o e
    exact (p6 b o' h).trans (a6 b o e)
  · rw [List.map_append, List.nodup_append]
    refine ⟨q1, n2, fun x hx y hy e => ?_⟩
    subst e
    obtain ⟨p, hp, rfl⟩ := List.mem_map.mp hx
    rcases r1 p hp with z | z
    · exact n3 _ z _ hy rfl
    · obtain ⟨p', hp', e'⟩ := List.mem_map.mp hy
      have := b2 p' (List.mem_append_right _ hp')
      rw [e', z] at this; cases this
  · rcases List.mem_append.mp hp with hp | hp
    · exact q2 p hp
    · refine p4 _ _ (fun q => ?_) (b2 p (List.mem_append_right _ hp))
      exact n3 _ q _ (List.mem_map_of_mem hp) rfl
  · rcases List.mem_append.mp hp with hp | hp
    · exact q3 p hp
    · exact (p6 _ _ (b2 p (List.mem_append_right _ hp))).trans (b3 p (List.mem_append_right _ hp))
  · rcases List.mem_append.mp hp with hp | hp
    · rcases r1 p hp with z | z
      · obtain ⟨p', hp', e'⟩ := List.mem_map.mp z
        exact e' ▸ c1 p' (List.mem_append_left _ hp')
      · exact .inr (dead _ z)
    · exact c1 p (List.mem_append_right _ hp)
  · exact (p6 _ _ hL).trans c5
  · rw [List.map_append]
    intro q
    rcases List.mem_append.mp q with q | q
    · obtain ⟨p, hp, e⟩ := List.mem_map.mp q
      rcases r1 p hp with z | z
      · exact c6 (List.mem_append_left _ (e ▸ z))
      · rw [e, hL] at z; cases z
    · exact c6 (List.mem_append_right _ q)
theorem Fm.after0 (F : Fm K env se S₀ R₀ R l l2 s) (P : Post K s [] R R' l1' s') : Fm K env se S₀ R₀ R' l (l1' ++ l2) s' := Fm.after (l1 := []) F P
theorem Fm.after1 {p : Addr × Obj} (F : Fm K env se S₀ R₀ R l (p :: l2) s) (P : Post K s [p.1] R R' l1' s') : Fm K env se S₀ R₀ R' l (l1' ++ l2) s' := Fm.after (l1 := [p]) F P
theorem Fm.after2 {p q : Addr × Obj} (F : Fm K env se S₀ R₀ R l (p :: q :: l2) s) (P : Post K s [p.1, q.1] R R' l1' s') : Fm K env se S₀ R₀ R' l (l1' ++ l2) s' := Fm.after (l1 := [p, q]) F P

noncomputable def chk (scope : Scope) (ps others : List Str) (gs : List Str) : Bool :=
  decide (ps ++ others).Nodup && ((ps ++ others).all fun x => scope.names.lookup x == some .local && !(x == ("__debug__" : Str))) && (gs.all fun x => scope.names.lookup x == some .globalImplicit && !(x == ("__debug__" : Str))) &&
    (scope.names.all fun x => x.2 != .cell) && !scope.isCoroutine && !scope.isGenerator && (scope.kind == .function)

theorem lookup_zip {ps : List Str} {vs : List Value} (hl : ps.length = vs.length) (nd : ps.Nodup) : ∀ x v, (x, some v) ∈ ps.zip (vs.map some) → (ps.zip vs).reverse.lookup x = some v := by
  induction ps generalizing vs with
  | nil => intro x v h; simp at h
  | cons p ps ih =>
    intro x v h
    cases vs with
    | nil => simp at h
    | cons u vs =>
      rw [List.nodup_cons] at nd
      simp only [List.map_cons, List.zip_cons_cons, List.reverse_cons, List.lookup_append]
      simp only [List.map_cons, List.zip_cons_cons, List.mem_cons, Prod.mk.injEq, Option.some.injEq] at h
      rcases h with ⟨rfl, rfl⟩ | h
      · have : (ps.zip vs).reverse.lookup x = none := by
          rw [List.lookup_eq_none_iff]
          intro q hq
          simp only [bne_iff_ne, ne_eq, beq_iff_eq]
          have h2 := (List.of_mem_zip (List.mem_reverse.mp hq)).1
          simp only [Bool.not_eq_true, beq_eq_false_iff_ne, ne_eq] at *
          intro e
          exact nd.1 (e ▸ h2)
        rw [this]; simp
      · rw [ih (by simpa using hl) nd.2 x v h]; rfl
theorem lookup_others {ps : List Str} {vs : List Value} {x : Str} (h : x ∉ ps) : (ps.zip vs).reverse.lookup x = none := by
  rw [List.lookup_eq_none_iff]
  intro q hq
  have h2 := (List.of_mem_zip (List.mem_reverse.mp hq)).1
  simp only [bne_iff_ne, ne_eq, beq_iff_eq, Bool.not_eq_true, beq_eq_false_iff_ne] at *
  intro e
  exact h (e ▸ h2)

noncomputable def l0 (ps : List Str) (vs : List Value) (others : List Str) : List (Str × Option Value) := ps.zip (vs.map some) ++ others.map fun x => (x, none)

theorem l0_keys {ps : List Str} {vs : List Value} {others : List Str} (hl : ps.length = vs.length) : (l0 ps vs others).map (·.1) = ps ++ others := by
  unfold l0
  rw [List.map_append, List.map_fst_zip (by simp [hl]), List.map_map]
  congr 1
  induction others with
  | nil => rfl
  | cons a r ih => simp [ih]

theorem enterC_ {n : Nat} {Rr : Result → Shared → Prop} {name qual : Str} {params : Arguments} {body : List Stmt} {scope : Scope} {dV kV doc pm cdv ct oc : Value} {an od : Option Addr} {osl : Array (Option Value)} {f : Addr} {vs : List Value}
    (ps others : List Str) (glb : List (Str × Value))
    (hA : Rm (n + 1) A) (O : Ok K R s) (hl : Led R led s)
    (ho : K.lookup f = some ⟨oc, od, .func (fnOf name qual params body scope dV kV doc pm an cdv ct), osl⟩) (hcd : codeIn K cdv qual = true)
    (hc : chk scope ps others (glb.map (·.1)) = true) (hg : ∀ p ∈ glb, Gl K p.1 p.2) (hlen : ps.length = vs.length)
    (hbind : BindsTo s (fnOf name qual params body scope dV kV doc pm an cdv ct) ⟨vs, []⟩ (ps.zip vs))
    (h : ∀ env s', env.qual = qual ++ ".<locals>." → env.code = cdv → Fm K env s (led.map (·.1)) R R (l0 ps vs others) led s' → EG K env glb → Rm n (A.deeper env) →
      wpAny (model prog w) (A.deeper env) (execs body env) (retK fun v s' => Rr (.ok (.ret v)) s') (fun _ _ => False) s') :
    codeAny (model prog w) A (.call (.ref f) ⟨vs, []⟩) Rr s := by
  simp only [chk, Bool.and_eq_true, decide_eq_true_eq, List.all_eq_true, beq_iff_eq, Bool.not_eq_true', bne_iff_ne, ne_eq] at hc
  obtain ⟨⟨⟨⟨⟨⟨h1, h2⟩, h3⟩, h4⟩, h5⟩, h6⟩, h7⟩ := hc
  have hs := O.K _ _ ho
  refine (codeAny_call_def (fd := fnOf name qual params body scope dV kV doc pm an cdv ct) (body := body) (binds := ps.zip vs) hA.room hs rfl O.nolimit (codeRec_of O.K hcd) rfl hbind (fun x hx => by have := h4 x hx; exact this) (fun x hx => (h2 _ (List.mem_append_left _ (List.of_mem_zip hx).1)).1) (fun h₁ hns hk₁ => ?_) h5 h6 h7)
  have hlive : ∀ b o, s.heap.get? b = some o → b ≠ s.heap.objs.size := fun b o e q => Nat.lt_irrefl _ (q ▸ Heap.lt_size e)
  have hnone : s.heap.get? s.heap.objs.size = none := by
    cases q : s.heap.get? s.heap.objs.size with
    | none => rfl
    | some o => exact absurd rfl (hlive _ _ q)
  refine wpAny_mono (h (callEnv (fnOf name qual params body scope dV kV doc pm an cdv ct) s.heap.objs.size f) _ rfl rfl ⟨⟨⟨O.stat, fun a o e => hk₁ _ _ (O.sub a o e)⟩, rfl, rfl, rfl, fun a o _ e => hk₁ _ _ e, fun a o e => ⟨o, hk₁ _ _ e⟩, fun _ _ _ => rfl⟩, ⟨hl.nd, fun p hp => hk₁ _ _ (hl.here p hp), hl.no⟩, fun p hp => .inl (List.mem_map_of_mem hp), ⟨_, hns, fun p hp => ?_⟩, ?_, hnone, ?_, ?_, h7, fun p hp => ?_⟩ ⟨rfl, rfl, fun p hp => ⟨(h3 _ (List.mem_map_of_mem hp)).1, (h3 _ (List.mem_map_of_mem hp)).2, hg p hp⟩⟩ hA.deeper) (fun fl s' q => by cases fl <;> exact q) fun _ _ q => q.elim
  · rcases List.mem_append.mp hp with hp | hp
    · obtain ⟨x, v⟩ := p
      cases v with
      | some v => exact lookup_zip hlen (List.nodup_append.mp h1).1 x v hp
      | none =>
        exfalso
        have := (List.of_mem_zip hp).2
        simp at this
    · obtain ⟨x, hx, rfl⟩ := List.mem_map.mp hp
      exact lookup_others fun q => (List.nodup_append.mp h1).2.2 _ q _ hx rfl
  · rw [l0_keys hlen]; exact h1
  · show R s.heap.objs.size = none
    cases q : R s.heap.objs.size with
    | none => rfl
    | some o => exact absurd rfl (hlive _ _ (O.sub _ _ q))
  · intro q
    obtain ⟨p, hp, e⟩ := List.mem_map.mp q
    exact hlive _ _ (hl.here p hp) e
  · have hm : p.1 ∈ ps ++ others := by
      rw [← l0_keys (vs := vs) hlen]; exact List.mem_map_of_mem hp
    exact ⟨(h2 _ hm).1, (h2 _ hm).2⟩

theorem enter_ {n : Nat} {Q : Value → Shared → Prop} {name qual : Str} {params : Arguments} {body : List Stmt} {scope : Scope} {dV kV doc pm cdv ct oc : Value} {an od : Option Addr} {osl : Array (Option Value)} {f : Addr} {vs : List Value}
    (ps others : List Str) (glb : List (Str × Value))
    (hA : Rm (n + 1) A) (O : Ok K R s) (hl : Led R led s)
    (ho : K.lookup f = some ⟨oc, od, .func (fnOf name qual params body scope dV kV doc pm an cdv ct), osl⟩) (hcd : codeIn K cdv qual = true)
    (hc : chk scope ps others (glb.map (·.1)) = true) (hg : ∀ p ∈ glb, Gl K p.1 p.2) (hlen : ps.length = vs.length)
    (hbind : BindsTo s (fnOf name qual params body scope dV kV doc pm an cdv ct) ⟨vs, []⟩ (ps.zip vs))
    (h : ∀ env s', env.qual = qual ++ ".<locals>." → env.code = cdv → Fm K env s (led.map (·.1)) R R (l0 ps vs others) led s' → EG K env glb → Rm n (A.deeper env) →
      wpAny (model prog w) (A.deeper env) (execs body env) (retK Q) (fun _ _ => False) s') :
    wpAny (model prog w) A (call (.ref f) vs) Q E s :=
  wpAny_call (enterC_ ps others glb hA O hl ho hcd hc hg hlen hbind h)

/-- an object of the ledger that nothing needs any more may have changed -/
theorem Fm.extBut {a : Addr} {o : Obj} {h' : Heap} {t' : Tok} (F : Fm K env se S R₀ R l ((a, o) :: led) s) (hn : se.heap.get? a = none) (k : Heap.ExtBut a s.heap h') : Fm K env se S R₀ R l led { s with heap := h', toks := t' } := by
  have hR := F.lgr.no (a, o) (.head _)
  obtain ⟨⟨⟨st, sb⟩, a1, a2, a3, a4, a5, a6⟩, ⟨b1, b2, b3⟩, c1, ⟨m, c2, c2'⟩, c3, c4, c5, c6, c7, c8⟩ := F
  rw [List.map_cons] at b1 c6
  have b1' := List.nodup_cons.mp b1
  have ne : ∀ b o, se.heap.get? b = some o → b ≠ a := fun b o e q => by rw [q, hn] at e; cases e
  refine ⟨⟨⟨st, fun b x e => k b x (fun q => by rw [q] at e; rw [hR] at e; cases e) (sb b x e)⟩, a1, a2, a3, fun b x h1 e => k b x (ne b x e) (a4 b x h1 e), fun b x e => ?_, a6⟩, ⟨b1'.2, fun p hp => k _ _ (fun q => b1'.1 (by have z := List.mem_map_of_mem (f := Prod.fst) hp; rw [q] at z; exact z)) (b2 p (.tail _ hp)), fun p hp => b3 p (.tail _ hp)⟩, fun p hp => c1 p (.tail _ hp), ⟨m, c2.extBut k (fun q => c6 (q ▸ .head _)), c2'⟩, c3, c4, c5, fun q => c6 (.tail _ q), c7, c8⟩
  obtain ⟨x', h⟩ := a5 b x e
  exact ⟨x', k _ _ (ne b x e) h⟩

noncomputable def LI (o : Obj) (l : Addr) (i : Nat) : Prop := o.cls = .type "list_iterator" ∧ o.data = .fields #[.ref l, .int i 0]
noncomputable abbrev riObj (x left step : Int) : Obj := { cls := .type "range_iterator", data := .fields #[rawInt x, rawInt left, rawInt step] }

noncomputable def loopR (prog : Program) (w : World) (A : Around) (env : Env) (x : Str) (px : Pos) (body : List Stmt) (it : Addr) (Rr : Result → Shared → Prop) (f : Flow) (s : Shared) : Prop := match f with
  | .next | .cont => codeAny (model prog w) A (.forLoop (.Name x px) (.ref it) body [] env) Rr s
  | .brk => Rr (.ok .next) s
  | .ret v => Rr (.ok (.ret v)) s

theorem for_one {x : Str} {px : Pos} {body : List Stmt} {it : Addr} {Rr : Result → Shared → Prop}
    (h : wpAny (model prog w) A (pyNext (.ref it)) (fun r s₁ => match r with
      | none => Rr (.ok .next) s₁
      | some v => wpAny (model prog w) A (storeName env x v) (fun _ s₂ => wpAny (model prog w) A (execs body env) (loopR prog w A env x px body it Rr) (fun _ _ => False) s₂) (fun _ _ => False) s₁) (fun _ _ => False) s) :
    codeAny (model prog w) A (.forLoop (.Name x px) (.ref it) body [] env) Rr s := by
  refine codeAny_of_tree ?_
  show wpAny _ A ((forTurn (.Name x px) (.ref it) body [] env).onRaise (fun x => do noteFrame x env; theTreesLotGoes x)) _ _ s
  refine wpAny_onRaise ?_
  simp only [forTurn]
  refine wpAny_bind (wpAny_standAt (wpAny_bind (wpAny_onRaise (wpAny_mono h (fun r s₁ h₁ => ?_) fun _ _ h' => h'.elim))))
  cases r with
  | none => exact wpAny_pure ⟨rfl, codeAny_block (wpAny_execs_nil h₁)⟩
  | some v =>
    refine wpAny_bind (wpAny_pure (wpAny_bind (wpAny_assign_Name (wpAny_mono h₁ (fun _ s₂ h₂ => ?_) fun _ _ h' => h'.elim))))
    refine wpAny_bind (wpAny_mono h₂ (fun f s₃ h₃ => ?_) fun _ _ h' => h'.elim)
    cases f with
    | next => exact wpAny_pure ⟨rfl, h₃⟩
    | cont => exact wpAny_pure ⟨rfl, h₃⟩
    | brk => exact wpAny_pure h₃
    | ret v => exact wpAny_pure h₃

theorem forL_ {x : Str} {px : Pos} {body : List Stmt} {it lv : Addr} {i : Nat} {items : Array Value} {Rr : Result → Shared → Prop} {o : Obj} {lo : Value → List (Str × Option Value)}
    (F : Fm K env se S R₀ R l ((it, o) :: led) s) (ho : LI o lv i) (hn : se.heap.get? it = none) (hl : s.heap.IsList lv items) (hh : A.handled = none) (P : ∀ v, Put x (some v) l (lo v))
    (item : ∀ v s' o', items[i]? = some v → LI o' lv (i + 1) → Fm K env se S R₀ R (lo v) ((it, o') :: led) s' → wpAny (model prog w) A (execs body env) (loopR prog w A env x px body it Rr) (fun _ _ => False) s')
    (done : ∀ s', items[i]? = none → Fm K env se S R₀ R l led s' → Rr (.ok .next) s') : codeAny (model prog w) A (.forLoop (.Name x px) (.ref it) body [] env) Rr s := by
  refine for_one ?_
  have hit : s.heap.IsListIter it lv i := ⟨o, F.lgr.here (it, o) (.head _), ho.1, ho.2⟩
  cases hv : items[i]? with
  | none => exact wpAny_pyNext_list_end hh hit hl hv fun h' k => done _ hv (F.extBut hn k)
  | some v =>
    refine wpAny_pyNext_list_item hit hl hv fun h' hit' hs => ?_
    obtain ⟨o', ho', h1, h2⟩ := hit'
    exact st_ (F.updH .head hs ho') (P v) fun s' F' => item v s' o' hv ⟨h1, h2⟩ F'

theorem forR_ {x : Str} {px : Pos} {body : List Stmt} {it : Addr} {a left : Int} {Rr : Result → Shared → Prop} {lo : Value → List (Str × Option Value)}
    (F : Fm K env se S R₀ R l ((it, riObj a left 1) :: led) s) (hn : se.heap.get? it = none) (hh : A.handled = none) (P : ∀ v, Put x (some v) l (lo v))
    (item : ∀ t s', 0 < left → Fm K env se S R₀ R (lo (.int a t)) ((it, riObj (a + 1) (left - 1) 1) :: led) s' → wpAny (model prog w) A (execs body env) (loopR prog w A env x px body it Rr) (fun _ _ => False) s')
    (done : ∀ s', left ≤ 0 → Fm K env se S R₀ R l led s' → Rr (.ok .next) s') : codeAny (model prog w) A (.forLoop (.Name x px) (.ref it) body [] env) Rr s := by
  refine for_one ?_
  have hit : IsRangeIter s.heap it a left 1 := F.lgr.here (it, riObj a left 1) (.head _)
  by_cases hv : 0 < left
  · refine wpAny_pyNext_range_item hit hv fun h' hit' hs => ?_
    exact st_ (F.upd .head hs hit') (P _) fun s' F' => item _ s' hv F'
  · exact wpAny_pyNext_range_end hh hit (by omega) fun h' k => done _ (by omega) (F.extBut hn k)

/-- a for over what pyIter gives -/
theorem For_ {x : Str} {px : Pos} {iter : Expr} {body : List Stmt} {pos : Pos} {Q : Flow → Shared → Prop}
    (h : wpAny (model prog w) A (eval iter env) (fun x' s₁ => wpAny (model prog w) A (pyIter x') (fun it s₂ => codeAny (model prog w) A (.forLoop (.Name x px) it body [] env) (fun r s' => match r with | .ok f => Q f s' | .error _ => False) s₂) E s₁) E s)
    (hs : ∀ x', foldedSetIterable iter env x' = pure x' := by intro _; rfl) : wpAny (model prog w) A (exec (.For (.Name x px) iter body [] pos) env) Q E s :=
  wpAny_For (wpAny_mono h (fun _ _ h₁ => wpAny_mono h₁ (fun _ _ h₂ => codeAny_mono h₂ fun r s' q => by cases r with | ok f => exact q | error e => exact q.elim) fun _ _ e => e) fun _ _ e => e) hs

theorem iterL_ {lv : Addr} {items : Array Value} {Q : Value → Shared → Prop} (F : Fm K env se S R₀ R l led s) (hl : s.heap.IsList lv items)
    (h : ∀ it o s', LI o lv 0 → se.heap.get? it = none → Fm K env se S R₀ R l ((it, o) :: led) s' → Q (.ref it) s') : wpAny (model prog w) A (pyIter (.ref lv)) Q E s :=
  wpAny_pyIter_list hl (h _ _ _ ⟨rfl, rfl⟩ F.size_se (F.push rfl))

theorem while_one {test : Expr} {body : List Stmt} {Rr : Result → Shared → Prop}
    (h : wpAny (model prog w) A (isTrue test env (eval test env)) (fun b s₂ => if b then
        wpAny (model prog w) A (execs body env) (fun f s₃ => match f with
          | .next | .cont => codeAny (model prog w) A (.whileLoop test body [] env) Rr s₃
          | .brk => Rr (.ok .next) s₃
          | .ret v => Rr (.ok (.ret v)) s₃) (fun _ _ => False) s₂
      else Rr (.ok .next) s₂) (fun _ _ => False) s) : codeAny (model prog w) A (.whileLoop test body [] env) Rr s := by
  refine codeAny_of_tree ?_
  show wpAny _ A ((whileTurn test body [] env).onRaise (fun x => do noteFrame x env; theTreesLotGoes x)) _ _ s
  refine wpAny_onRaise ?_
  simp only [whileTurn]
  refine wpAny_bind (wpAny_mono h (fun b s₂ h₂ => ?_) fun _ _ h' => h'.elim)
  cases b with
  | false =>
    simp only [Bool.false_eq_true, if_false] at h₂ ⊢
    exact wpAny_bind (wpAny_execs_nil (wpAny_pure h₂))
  | true =>
    simp only [if_true] at h₂ ⊢
    refine wpAny_bind (wpAny_mono h₂ (fun f s₃ h₃ => ?_) fun _ _ h' => h'.elim)
    cases f with
    | next => exact wpAny_pure ⟨rfl, h₃⟩
    | cont => exact wpAny_pure ⟨rfl, h₃⟩
    | brk => exact wpAny_pure h₃
    | ret v => exact wpAny_pure h₃
theorem While_ {test : Expr} {body : List Stmt} {pos : Pos} {Q : Flow → Shared → Prop} (hh : A.handled = none)
    (h : codeAny (model prog w) A (.whileLoop test body [] env) (fun r s' => match r with | .ok f => Q f s' | .error _ => False) s) :
    wpAny (model prog w) A (exec (.While test body [] pos) env) Q E s :=
  wpAny_While (codeAny_mono h fun r s' q => by cases r with | ok f => exact q | error e => exact q.elim)

noncomputable def thenK (M : Model) (A : Around) (env : Env) (rest : List Stmt) (Q : Flow → Shared → Prop) (E : Value → Shared → Prop) : Flow → Shared → Prop
  | .next, s => wpAny M A (execs rest env) Q E s
  | f, s => Q f s
theorem seq_ {st : Stmt} {rest : List Stmt} {Q : Flow → Shared → Prop} (h : wpAny (model prog w) A (exec st env) (thenK (model prog w) A env rest Q E) E s) : wpAny (model prog w) A (execs (st :: rest) env) Q E s :=
  wpAny_execs_cons (wpAny_mono h (fun f s' q => by cases f <;> exact q) fun _ _ e => e)
theorem nil_ {Q : Flow → Shared → Prop} (h : Q .next s) : wpAny (model prog w) A (execs [] env) Q E s := wpAny_execs_nil h
theorem thenK_next {M : Model} {rest : List Stmt} {Q : Flow → Shared → Prop} (h : wpAny M A (execs rest env) Q E s) : thenK M A env rest Q E .next s := h
theorem thenK_ret {M : Model} {rest : List Stmt} {Q : Flow → Shared → Prop} {v : Value} (h : Q (.ret v) s) : thenK M A env rest Q E (.ret v) s := h
theorem if_t {a b : Prop} (h : a) : if true = true then a else b := h
theorem if_f {a b : Prop} (h : b) : if false = true then a else b := h
theorem if_c {c : Bool} {a b : Prop} (h1 : c = true → a) (h2 : c = false → b) : if c = true then a else b := by
  cases c with
  | true => exact h1 rfl
  | false => exact h2 rfl
theorem if_d {p : Prop} [Decidable p] {a b : Prop} (h1 : p → a) (h2 : ¬ p → b) : if decide p = true then a else b :=
  if_c (fun e => h1 (of_decide_eq_true e)) fun e => h2 (of_decide_eq_false e)
theorem if_e {α : Type} [BEq α] [LawfulBEq α] {x y : α} {a b : Prop} (h1 : x = y → a) (h2 : x ≠ y → b) : if (x == y) = true then a else b :=
  if_c (fun e => h1 (eq_of_beq e)) fun e => h2 (fun q => by rw [q] at e; simp at e)
theorem if_n {c : Bool} {a b : Prop} (h : if c = true then b else a) : if (!c) = true then a else b := by
  cases c <;> exact h
theorem loop_next {x : Str} {px : Pos} {body : List Stmt} {it : Addr} {Rr : Result → Shared → Prop} (h : codeAny (model prog w) A (.forLoop (.Name x px) (.ref it) body [] env) Rr s) : loopR prog w A env x px body it Rr .next s := h
theorem loop_ret {x : Str} {px : Pos} {body : List Stmt} {it : Addr} {Rr : Result → Shared → Prop} {v : Value} (h : Rr (.ok (.ret v)) s) : loopR prog w A env x px body it Rr (.ret v) s := h

/-- a turn's end -/
noncomputable def turnK {τ : Type} (K : Frag) (env : Env) (se : Shared) (S : List Addr) (R₀ : Imm) (Rf : τ → Imm) (lf : τ → List (Str × Option Value)) (ledf : τ → Ledger) (P : τ → Prop) (it : Addr × Obj) (Rr : Result → Shared → Prop) : Flow → Shared → Prop
  | .next, s | .cont, s => ∃ c, P c ∧ Fm K env se S R₀ (Rf c) (lf c) (it :: ledf c) s
  | .brk, s => Rr (.ok .next) s
  | .ret v, s => Rr (.ok (.ret v)) s
theorem turnK_next {τ : Type} {Rf : τ → Imm} {lf : τ → List (Str × Option Value)} {ledf : τ → Ledger} {P : τ → Prop} {it : Addr × Obj} {Rr : Result → Shared → Prop} (c : τ) (h : P c) (F : Fm K env se S R₀ (Rf c) (lf c) (it :: ledf c) s) :
    turnK K env se S R₀ Rf lf ledf P it Rr .next s := ⟨c, h, F⟩
theorem turnK_ret {τ : Type} {Rf : τ → Imm} {lf : τ → List (Str × Option Value)} {ledf : τ → Ledger} {P : τ → Prop} {it : Addr × Obj} {Rr : Result → Shared → Prop} {v : Value} (h : Rr (.ok (.ret v)) s) :
    turnK K env se S R₀ Rf lf ledf P it Rr (.ret v) s := h

theorem forL_all {τ : Type} {x : Str} {px : Pos} {body : List Stmt} {it lv : Addr} {items : Array Value} {n : Nat} {Rr : Result → Shared → Prop}
    (Rf : τ → Imm) (lf : τ → List (Str × Option Value)) (lx : τ → Value → List (Str × Option Value)) (ledf : τ → Ledger) (P : Nat → τ → Prop)
    (hh : A.handled = none) (hn : se.heap.get? it = none) (hput : ∀ c v, Put x (some v) (lf c) (lx c v)) (hlist : ∀ i c, P i c → Rf c lv = some (listOf items n))
    (turn : ∀ i v c s o, items[i]? = some v → P i c → Fm K env se S R₀ (Rf c) (lx c v) ((it, o) :: ledf c) s →
      wpAny (model prog w) A (execs body env) (turnK K env se S R₀ Rf lf ledf (P (i + 1)) (it, o) Rr) (fun _ _ => False) s)
    (done : ∀ c s, P items.size c → Fm K env se S R₀ (Rf c) (lf c) (ledf c) s → Rr (.ok .next) s) :
    ∀ (k i : Nat) (c : τ) (o : Obj) (s : Shared), i + k = items.size → P i c → LI o lv i → Fm K env se S R₀ (Rf c) (lf c) ((it, o) :: ledf c) s →
      codeAny (model prog w) A (.forLoop (.Name x px) (.ref it) body [] env) Rr s := by
  intro k
  induction k with
  | zero =>
    intro i c o s e hp ho F
    refine forL_ F ho hn (⟨_, F.out.ok.sub _ _ (hlist i c hp), rfl, n, rfl⟩) hh (hput c) (fun v s' o' hv => ?_) fun s' _ F' => done c s' ((show i = items.size by omega) ▸ hp) F'
    rw [Array.getElem?_eq_none (by omega)] at hv; cases hv
  | succ k ih =>
    intro i c o s e hp ho F
    refine forL_ F ho hn (⟨_, F.out.ok.sub _ _ (hlist i c hp), rfl, n, rfl⟩) hh (hput c) (fun v s' o' hv ho' F' => ?_) fun s' hv => ?_
    · refine wpAny_mono (turn i v c s' o' hv hp F') (fun f s₂ h₂ => ?_) fun _ _ e => e
      cases f with
      | next => obtain ⟨c', h1, h2⟩ := h₂; exact ih (i + 1) c' o' s₂ (by omega) h1 ho' h2
      | cont => obtain ⟨c', h1, h2⟩ := h₂; exact ih (i + 1) c' o' s₂ (by omega) h1 ho' h2
      | brk => exact h₂
      | ret v => exact h₂
    · have : i < items.size := by omega
      rw [Array.getElem?_eq_getElem this] at hv; cases hv

theorem forR_all {τ : Type} {x : Str} {px : Pos} {body : List Stmt} {it : Addr} {n : Nat} {Rr : Result → Shared → Prop}
    (Rf : τ → Imm) (lf : τ → List (Str × Option Value)) (lx : τ → Value → List (Str × Option Value)) (ledf : τ → Ledger) (P : Nat → τ → Prop)
    (hh : A.handled = none) (hn : se.heap.get? it = none) (hput : ∀ c v, Put x (some v) (lf c) (lx c v))
    (turn : ∀ i t c s o, i < n → P i c → Fm K env se S R₀ (Rf c) (lx c (.int i t)) ((it, o) :: ledf c) s →
      wpAny (model prog w) A (execs body env) (turnK K env se S R₀ Rf lf ledf (P (i + 1)) (it, o) Rr) (fun _ _ => False) s)
    (done : ∀ c s, P n c → Fm K env se S R₀ (Rf c) (lf c) (ledf c) s → Rr (.ok .next) s) :
    ∀ (k i : Nat) (c : τ) (s : Shared), i + k = n → P i c → Fm K env se S R₀ (Rf c) (lf c) ((it, riObj i k 1) :: ledf c) s →
      codeAny (model prog w) A (.forLoop (.Name x px) (.ref it) body [] env) Rr s := by
  intro k
  induction k with
  | zero =>
    intro i c s e hp F
    refine forR_ F hn hh (hput c) (fun t s' hv => ?_) fun s' _ F' => done c s' ((show i = n by omega) ▸ hp) F'
    exact absurd hv (by simp)
  | succ k ih =>
    intro i c s e hp F
    refine forR_ F hn hh (hput c) (fun t s' hv F' => ?_) fun s' hv => absurd hv (by omega)
    refine wpAny_mono (turn i t c s' _ (by omega) hp F') (fun f s₂ h₂ => ?_) fun _ _ e => e
    have e1 : (i : Int) + 1 = ((i + 1 : Nat) : Int) := by omega
    have e2 : ((k + 1 : Nat) : Int) - 1 = (k : Int) := by omega
    cases f with
    | next => obtain ⟨c', h1, h2⟩ := h₂; rw [e1, e2] at h2; exact ih (i + 1) c' s₂ (by omega) h1 h2
    | cont => obtain ⟨c', h1, h2⟩ := h₂; rw [e1, e2] at h2; exact ih (i + 1) c' s₂ (by omega) h1 h2
    | brk => exact h₂
    | ret v => exact h₂
theorem cut_ {α : Type} {t : Sem α} {Q : α → Shared → Prop} (P : α → Shared → Prop) (h1 : wpAny (model prog w) A t P E s) (h2 : ∀ a s', P a s' → Q a s') : wpAny (model prog w) A t Q E s := wpAny_mono h1 h2 fun _ _ e => e
end

-- LD
section
variable {prog : Program} {w : World} {K : Frag} {env : Env} {se s s' : Shared} {S S₀ : List Addr} {R₀ R R' : Imm} {l l' : List (Str × Option Value)} {led led' l1 l1' l2 : Ledger} {A : Around} {E : Value → Shared → Prop}

noncomputable def IsL (o : Obj) (its : Array Value) : Prop := o.cls = .type "list" ∧ ∃ n, o.data = .seq its n
theorem isL_of {its : Array Value} {n : Nat} : IsL (listOf its n) its := ⟨rfl, n, rfl⟩

theorem Fm.listO {a : Addr} {its : Array Value} {o : Obj} (F : Fm K env se S R₀ R l led s) (hm : (a, o) ∈ led) (ho : IsL o its) : s.heap.IsList a its := ⟨o, F.lgr.here _ hm, ho.1, ho.2⟩
theorem Fm.listAt {a : Addr} {its : Array Value} {n : Nat} (F : Fm K env se S R₀ R l led s) (hm : (a, listOf its n) ∈ led) : s.heap.IsList a its := F.listO hm isL_of
theorem Fm.listR {a : Addr} {its : Array Value} {n : Nat} (F : Fm K env se S R₀ R l led s) (hm : R a = some (listOf its n)) : s.heap.IsList a its := ⟨_, F.out.ok.sub _ _ hm, rfl, n, rfl⟩
theorem Fm.tupAt {a : Addr} {its : Array Value} {n : Nat} (F : Fm K env se S R₀ R l led s) (hm : (a, tupOf its n) ∈ led) : IsTup s.heap a its := ⟨_, F.lgr.here _ hm, rfl, n, rfl⟩
theorem Fm.tupR {a : Addr} {its : Array Value} {n : Nat} (F : Fm K env se S R₀ R l led s) (hm : R a = some (tupOf its n)) : IsTup s.heap a its := ⟨_, F.out.ok.sub _ _ hm, rfl, n, rfl⟩

theorem Fm.extS {h' : Heap} (F : Fm K env se S R₀ R l led s) (k : Heap.ExtBut s.heap.objs.size s.heap h') : Fm K env se S R₀ R l led { s with heap := h' } :=
  F.extH fun b o e => k b o (Nat.ne_of_lt (Heap.lt_size e)) e

theorem unpackT2_ {a b : Str} {pa pb pos : Pos} {k : Nat} {t : Addr} {x y : Value} {Q : Unit → Shared → Prop} (F : Fm K env se S R₀ R l led s) (hh : A.handled = none) (ht : IsTup s.heap t #[x, y])
    (h : ∀ s', Fm K env se S R₀ R l led s' → wpAny (model prog w) A (storeName env a x) (fun _ s₁ => wpAny (model prog w) A (storeName env b y) Q E s₁) E s') :
    wpAny (model prog w) A (assign (.Tuple [.Name a pa, .Name b pb] k pos) env (.ref t)) Q E s := by
  refine assign_Tuple_tuple hh ht rfl rfl fun h' k' => ?_
  show wpAny _ _ (do holding [y] (assign (.Name a pa) env x); holding [] (assign (.Name b pb) env y); pure ()) _ _ _
  refine wpAny_bind (wpAny_holding (wpAny_assign_Name (wpAny_mono (h _ (F.extS k')) (fun _ _ h₁ => ?_) fun _ _ e => e)))
  exact wpAny_bind (wpAny_holding (wpAny_assign_Name (wpAny_mono h₁ (fun _ _ h₂ => wpAny_pure h₂) fun _ _ e => e)))
theorem unpackL2_ {a b : Str} {pa pb pos : Pos} {k : Nat} {t : Addr} {x y : Value} {Q : Unit → Shared → Prop} (F : Fm K env se S R₀ R l led s) (hh : A.handled = none) (ht : s.heap.IsList t #[x, y])
    (h : ∀ s', Fm K env se S R₀ R l led s' → wpAny (model prog w) A (storeName env a x) (fun _ s₁ => wpAny (model prog w) A (storeName env b y) Q E s₁) E s') :
    wpAny (model prog w) A (assign (.Tuple [.Name a pa, .Name b pb] k pos) env (.ref t)) Q E s := by
  rw [assign_Tuple]
  refine wpAny_bind (wpAny_standAt ?_)
  unfold unpack
  refine wpAny_bind (wpAny_holding (kun_itemsOf (items := #[x, y]) hh ht fun h' k' => ?_))
  show wpAny _ _ (do holding [y] (assign (.Name a pa) env x); holding [] (assign (.Name b pb) env y); pure ()) _ _ _
  refine wpAny_bind (wpAny_holding (wpAny_assign_Name (wpAny_mono (h _ (F.extS k')) (fun _ _ h₁ => ?_) fun _ _ e => e)))
  exact wpAny_bind (wpAny_holding (wpAny_assign_Name (wpAny_mono h₁ (fun _ _ h₂ => wpAny_pure h₂) fun _ _ e => e)))

/-- xs[k] = v -/
theorem setL_ {a : Addr} {o : Obj} {its : Array Value} {k : Int} {t : Tok} {v : Value} {Q : Unit → Shared → Prop} {led' : Obj → Ledger} (F : Fm K env se S R₀ R l led s) (U : ∀ o', UpdL a o o' led (led' o')) (ho : IsL o its)
    (h0 : 0 ≤ k) (hn : k < its.size) (hs : its.size ≤ 1000) (h : ∀ o' s', IsL o' (its.setIfInBounds k.toNat v) → Fm K env se S R₀ R l (led' o') s' → Q () s') : wpAny (model prog w) A (setItem (.ref a) (.int k t) v) Q E s := by
  have hl := F.listO (U o).mem ho
  refine wpAny_setItem_list hl h0 (by omega) hn fun h' hl' hs' => ?_
  obtain ⟨o', e1, e2, e3⟩ := hl'
  exact h o' _ ⟨e2, e3⟩ (F.updH (U o') hs' e1)

/-- xs[k] -/
theorem itemL_ {value slice : Expr} {a : Addr} {its : Array Value} {k : Int} {t : Tok} {v : Value} {Q : Value → Shared → Prop} (hl : s.heap.IsList a its) (h0 : 0 ≤ k) (hk : k < 2 ^ 63) (hx : its[k.toNat]? = some v) (h : Q v s)
    (hs : subscripted slice false (.ref a) (.int k t) = operate [.ref a, .int k t] (getItem (.ref a) (.int k t)) := by with_unfolding_all rfl) : wpAny (model prog w) A (subscriptTail value slice (.ref a) (.int k t)) Q E s :=
  tail_any hl.typeIs slot_list_getitem.lookup (wpAny_getItem_list hl h0 hk hx h) hs
theorem itemN_ {value slice : Expr} {a : Addr} {its : Array Value} {k : Int} {t : Tok} {v : Value} {Q : Value → Shared → Prop} (hl : s.heap.IsList a its) (h0 : k < 0) (h1 : -its.size ≤ k) (hk : its.size < 100000) (hx : its[(k + its.size).toNat]? = some v) (h : Q v s)
    (hs : subscripted slice false (.ref a) (.int k t) = operate [.ref a, .int k t] (getItem (.ref a) (.int k t)) := by with_unfolding_all rfl) : wpAny (model prog w) A (subscriptTail value slice (.ref a) (.int k t)) Q E s :=
  tail_any hl.typeIs slot_list_getitem.lookup (wpAny_getItem_list_neg hl h0 h1 (by omega) hx h) hs
theorem itemT_ {value slice : Expr} {a : Addr} {its : List Value} {k : Int} {t : Tok} {v : Value} {Q : Value → Shared → Prop} (hl : IsTup s.heap a its.toArray) (h0 : 0 ≤ k) (hx : its[k.toNat]? = some v) (hk : its.length < 1000) (h : Q v s)
    (hs : subscripted slice false (.ref a) (.int k t) = operate [.ref a, .int k t] (getItem (.ref a) (.int k t)) := by with_unfolding_all rfl) : wpAny (model prog w) A (subscriptTail value slice (.ref a) (.int k t)) Q E s := by
  have hj : k.toNat < its.length := (List.getElem?_eq_some_iff.mp hx).1
  refine item_tupleT hl (by omega) (by omega) (j := k.toNat) (PySem.seqIndex_of h0 (by omega)) hx h hs

theorem lenL_ {a : Addr} {its : Array Value} {Q : Value → Shared → Prop} (F : Fm K env se S R₀ R l led s) (hl : s.heap.IsList a its) (hs : its.size < 100000) (h : ∀ t s', Fm K env se S R₀ R l led s' → Q (.int its.size t) s') : wpAny (model prog w) A (call (.builtin "len") [.ref a]) Q E s :=
  call_len_list hl (by omega) (h _ _ F.toks)
theorem lenS_ {x : Str} {t : Tok} {Q : Value → Shared → Prop} (F : Fm K env se S R₀ R l led s) (hs : x.length < 1000000) (h : ∀ t s', Fm K env se S R₀ R l led s' → Q (.int x.length t) s') : wpAny (model prog w) A (call (.builtin "len") [.str x t]) Q E s :=
  len_str (by omega) (h _ _ F.toks)
theorem addI_ {a b : Int} {t u : Tok} {Q : Value → Shared → Prop} (F : Fm K env se S R₀ R l led s) (h : ∀ t s', Fm K env se S R₀ R l led s' → Q (.int (a + b) t) s') : wpAny (model prog w) A (binaryOp .Add (.int a t) (.int b u)) Q E s := add_int (h _ _ F.toks)
theorem iaddI_ {a b : Int} {t u : Tok} {Q : Value → Shared → Prop} (F : Fm K env se S R₀ R l led s) (h : ∀ t s', Fm K env se S R₀ R l led s' → Q (.int (a + b) t) s') : wpAny (model prog w) A (inplaceOp .Add (.int a t) (.int b u)) Q E s := iadd_int (h _ _ F.toks)
theorem subI_ {a b : Int} {t u : Tok} {Q : Value → Shared → Prop} (F : Fm K env se S R₀ R l led s) (h : ∀ t s', Fm K env se S R₀ R l led s' → Q (.int (a - b) t) s') : wpAny (model prog w) A (binaryOp .Sub (.int a t) (.int b u)) Q E s := sub_int (h _ _ F.toks)
theorem mulI_ {a b : Int} {t u : Tok} {Q : Value → Shared → Prop} (F : Fm K env se S R₀ R l led s) (hb : Builtin.Int.intBits a ≤ 64) (h : ∀ t s', Fm K env se S R₀ R l led s' → Q (.int (a * b) t) s') : wpAny (model prog w) A (binaryOp .Mult (.int a t) (.int b u)) Q E s := mul_int (h _ _ F.toks) (.of_left hb)
theorem divI_ {a b : Int} {t u : Tok} {Q : Value → Shared → Prop} (F : Fm K env se S R₀ R l led s) (hb : 0 < b) (hb2 : b < 1073741824) (h : ∀ t s', Fm K env se S R₀ R l led s' → Q (.int (a.fdiv b) t) s') : wpAny (model prog w) A (binaryOp .FloorDiv (.int a t) (.int b u)) Q E s :=
  floordiv_int (by omega) (h _ _ F.toks) (.inl (PyProof.noPylong_small (by omega)))
theorem modI_ {a b : Int} {t u : Tok} {Q : Value → Shared → Prop} (F : Fm K env se S R₀ R l led s) (hb : 0 < b) (h : ∀ t s', Fm K env se S R₀ R l led s' → Q (.int (a.fmod b) t) s') : wpAny (model prog w) A (binaryOp .Mod (.int a t) (.int b u)) Q E s :=
  mod_int' (by omega) (h _ _ F.toks)
theorem addS_ {x y : Str} {t u : Tok} {Q : Value → Shared → Prop} (F : Fm K env se S R₀ R l led s) (hz : x.length + y.length ≤ 16000000) (h : ∀ t s', Fm K env se S R₀ R l led s' → Q (.str (x ++ y) t) s') : wpAny (model prog w) A (binaryOp .Add (.str x t) (.str y u)) Q E s :=
  add_str (fun t' tk => h _ _ F.toks) (by rw [sizeLine_eq]; omega)


noncomputable def allBut (h : Heap) (ex : List Addr) : List (Addr × Obj) := (List.range h.objs.size).filterMap fun b => if b ∈ ex then none else (h.get? b).map (b, ·)
theorem allBut_mem {h : Heap} {ex : List Addr} {b : Addr} {o : Obj} (hb : b ∉ ex) (e : h.get? b = some o) : (b, o) ∈ allBut h ex := by
  refine List.mem_filterMap.mpr ⟨b, List.mem_range.mpr (Heap.lt_size e), ?_⟩
  rw [if_neg hb, e]; rfl
theorem allBut_of {h : Heap} {ex : List Addr} {p : Addr × Obj} (hp : p ∈ allBut h ex) : p.1 ∉ ex ∧ h.get? p.1 = some p.2 := by
  obtain ⟨b, _, e⟩ := List.mem_filterMap.mp hp
  by_cases q : b ∈ ex
  · rw [if_pos q] at e; cases e
  · rw [if_neg q] at e
    obtain ⟨o, ho, rfl⟩ := Option.map_eq_some_iff.mp e
    exact ⟨q, ho⟩
theorem empty_get {b : Addr} : ({} : Heap).get? b = none := by simp [Heap.get?]
theorem libNews (h : Heap) (L : Addr) (ex : List Addr) (hL : L ∈ ex) : News {} L h (allBut h ex) := fun p hp => ⟨(allBut_of hp).2, fun q => (allBut_of hp).1 (q ▸ hL), empty_get⟩
theorem libFr {h : Heap} {L : Addr} {m : Str → Option Value} (hn : h.Ns L m) : Fr {} L h m := ⟨hn, (fun b o e => by rw [empty_get] at e; cases e), Nat.zero_le _⟩

/-- back from the library's rules: all but the locals' dict stands -/
theorem Fm.fromLib {h' : Heap} {t' : Tok} {m : Str → Option Value} (F : Fm K env se S R₀ R l led s) (hm : ∀ p ∈ l, m p.1 = p.2) (hn : h'.Ns env.locals m) (k : ∀ b o, b ≠ env.locals → s.heap.get? b = some o → h'.get? b = some o) :
    Fm K env se S R₀ R l led { s with heap := h', toks := t' } := by
  obtain ⟨⟨⟨st, sb⟩, a1, a2, a3, a4, a5, a6⟩, ⟨b1, b2, b3⟩, c1, ⟨m', c2, c2'⟩, c3, c4, c5, c6, c7, c8⟩ := F
  refine ⟨⟨⟨st, fun b o e => k b o (fun q => by rw [q, c5] at e; cases e) (sb b o e)⟩, a1, a2, a3, fun b o h1 e => k b o (fun q => by rw [q, c4] at e; cases e) (a4 b o h1 e), fun b o e => ?_, a6⟩, ⟨b1, fun p hp => k _ _ (fun q => c6 (q ▸ List.mem_map_of_mem hp)) (b2 p hp), b3⟩, c1, ⟨m, hn, hm⟩, c3, c4, c5, c6, c7, c8⟩
  obtain ⟨o', h⟩ := a5 b o e
  exact ⟨o', k b o' (fun q => by rw [q, c4] at e; cases e) h⟩
theorem Fm.addNew {a : Addr} {o : Obj} (F : Fm K env se S R₀ R l led s) (h1 : a ∉ led.map (·.1)) (h2 : R a = none) (h3 : se.heap.get? a = none) (h4 : env.locals ≠ a) (ho : s.heap.get? a = some o) : Fm K env se S R₀ R l ((a, o) :: led) s := by
  obtain ⟨o1, ⟨b1, b2, b3⟩, c1, c2, c3, c4, c5, c6, c7, c8⟩ := F
  refine ⟨o1, ⟨?_, fun p hp => ?_, fun p hp => ?_⟩, fun p hp => ?_, c2, c3, c4, c5, ?_, c7, c8⟩
  · rw [List.map_cons]; exact List.nodup_cons.mpr ⟨h1, b1⟩
  · rcases List.mem_cons.mp hp with rfl | hp
    · exact ho
    · exact b2 p hp
  · rcases List.mem_cons.mp hp with rfl | hp
    · exact h2
    · exact b3 p hp
  · rcases List.mem_cons.mp hp with rfl | hp
    · exact .inr h3
    · exact c1 p hp
  · rw [List.map_cons]; exact fun h => (List.mem_cons.mp h).elim h4 c6
theorem Fm.fresh {a : Addr} (F : Fm K env se S R₀ R l led s) (h : s.heap.get? a = none) : a ∉ led.map (·.1) ∧ R a = none ∧ se.heap.get? a = none ∧ env.locals ≠ a := by
  refine ⟨fun q => ?_, ?_, ?_, fun q => ?_⟩
  · obtain ⟨p, hp, rfl⟩ := List.mem_map.mp q
    have := F.lgr.here p hp
    rw [h] at this; cases this
  · cases q : R a with
    | none => rfl
    | some o => have := F.out.ok.sub _ _ q; rw [h] at this; cases this
  · cases q : se.heap.get? a with
    | none => rfl
    | some o => obtain ⟨o', e⟩ := F.out.live _ _ q; rw [h] at e; cases e
  · obtain ⟨m, ⟨o, _, _, e, _⟩, _⟩ := F.ns
    rw [q, h] at e; cases e
theorem get_size {h : Heap} : h.get? h.objs.size = none := by
  cases q : h.get? h.objs.size with
  | none => rfl
  | some o => exact absurd (Heap.lt_size q) (Nat.lt_irrefl _)

/-- xs + ys: a new list -/
theorem addL_ {a b : Addr} {its its2 : Array Value} {Q : Value → Shared → Prop} (F : Fm K env se S R₀ R l led s) (ha : s.heap.IsList a its) (hb : s.heap.IsList b its2) (hz : its.size + its2.size ≤ 100000)
    (h : ∀ c s', Fm K env se S R₀ R l ((c, listOf (its.toList ++ its2.toList).toArray 0) :: led) s' → se.heap.get? c = none → Q (.ref c) s') : wpAny (model prog w) A (binaryOp .Add (.ref a) (.ref b)) Q E s := by
  obtain ⟨m, hm, hm'⟩ := F.ns
  refine add_arrays (libFr hm) (libNews s.heap env.locals [env.locals] (.head _)) ha hb (fun h' F1 N1 => ?_) (by rw [sizeLine_eq]; omega)
  obtain ⟨q1, q2, q3, q4⟩ := F.fresh (get_size (h := s.heap))
  refine h _ _ (((F.fromLib (t' := s.toks) hm' F1.ns fun b o hb e => (N1 _ (.tail _ (allBut_mem (by simpa using hb) e))).1).addNew q1 q2 q3 q4 ?_)) q3
  exact (N1 _ (.head _)).1

/-- xs.append(v) on a list of the ledger -/
theorem app_ {a : Addr} {its : Array Value} {n : Nat} {v : Value} {Q : Value → Shared → Prop} (F : Fm K env se S R₀ R l led s) (U : UpdL a (listOf its n) (listOf (its.push v) (n + 1)) led led') (hz : its.size ≤ 100000)
    (h : ∀ s', Fm K env se S R₀ R l led' s' → Q .none s') : wpAny (model prog w) A (call (.builtin "list.append") [.ref a, v]) Q E s :=
  append_at (F.lgr.here _ U.mem) (fun h' hs ho => h _ (F.updH U hs ho)) (by rw [sizeLine_eq]; omega)
/-- xs.pop() on a list of the ledger -/
theorem pop_ {a : Addr} {vs : List Value} {y : Value} {n : Nat} {Q : Value → Shared → Prop} (F : Fm K env se S R₀ R l led s) (U : UpdL a (listOf (vs ++ [y]).toArray n) (listOf vs.toArray (n + 1)) led led') (hz : vs.length ≤ 100000)
    (h : ∀ s', Fm K env se S R₀ R l led' s' → Q y s') : wpAny (model prog w) A (call (.builtin "list.pop") [.ref a]) Q E s := by
  have z := F.lgr.here _ U.mem
  have hk : (vs ++ [y]).toArray.size - 1 = vs.length := by rw [List.size_toArray, List.length_append]; rfl
  have hy : (vs ++ [y]).toArray[(vs ++ [y]).toArray.size - 1]? = some y := by rw [hk]; simp
  refine call_meets PySem.F.slot_list_pop ⟨_, z, rfl⟩ PySem.F.entry_list_pop (PySem.F.args_list_pop_1 _) (PySem.MeetsSeq.list_pop_last a _ n y hy (by rw [sizeLine_eq, List.size_toArray, List.length_append]; simp; omega)) ⟨z, h _ (F.updH U (Heap.SameBut.update ..) ?_)⟩
  have q := PySem.IsL.update (show PySem.IsL _ a _ n from z) (fun xs => xs.eraseIdxIfInBounds ((vs ++ [y]).toArray.size - 1))
  rw [hk, kl_erase, List.append_nil, if_neg (by simp)] at q
  rw [hk]
  exact q

theorem gmL_ {name : Str} {id : String} {pl : Sem Bool} {a : Addr} {its : Array Value} {n : Nat} {Q : Value × List Value → Shared → Prop} (slot : Slot "list" name id) (hty : typeOf (.builtin id) = pure (.type "method_descriptor")) (hl : s.heap.get? a = some (listOf its n))
    (h : Q (.builtin id, [.ref a]) s) : wpAny (model prog w) A (getMethod (.ref a) name pl) Q E s :=
  getMethod_builtin ⟨_, hl, rfl⟩ PySem.F.plainAttrs_list slot hty (fun b e => by cases e; exact ⟨_, hl, rfl⟩) h
theorem gmApp_ {pl : Sem Bool} {a : Addr} {its : Array Value} {n : Nat} {Q : Value × List Value → Shared → Prop} (F : Fm K env se S R₀ R l led s) (hm : InL a (listOf its n) led)
    (h : Q (.builtin "list.append", [.ref a]) s) : wpAny (model prog w) A (getMethod (.ref a) (Str.ofString "append") pl) Q E s := gmL_ PySem.F.slot_list_append PySem.F.type_list_append (F.lgr.here _ hm.mem) h
theorem gmPop_ {pl : Sem Bool} {a : Addr} {its : Array Value} {n : Nat} {Q : Value × List Value → Shared → Prop} (F : Fm K env se S R₀ R l led s) (hm : InL a (listOf its n) led)
    (h : Q (.builtin "list.pop", [.ref a]) s) : wpAny (model prog w) A (getMethod (.ref a) (Str.ofString "pop") pl) Q E s := gmL_ PySem.F.slot_list_pop PySem.F.type_list_pop (F.lgr.here _ hm.mem) h

/-- calls: the arguments of a def of the text -/
theorem callK_ {pos : Pos} {f : Value} {first : List Value} {Q : Value → Shared → Prop} {e : Expr} {rest : List Expr} (F : Fm K env se S R₀ R l led s) (hk : keepIn K f = true)
    (h : wpAny (model prog w) A (spliced (backTo pos (starEach (e :: rest) env))) (fun vs s₁ => K.In s₁.heap ∧ wpAny (model prog w) A (call f (first ++ vs)) Q E s₁) E s)
    (he : starEach (e :: rest) env = (false, eval e env) :: starEach rest env := by rfl) (hplain : (backTo pos (starEach rest env)).any (·.1) = false := by rfl) :
    wpAny (model prog w) A (callWith pos f first (backTo pos (starEach (e :: rest) env)) []) Q E s :=
  callWith_K (h₀ := s.heap) (K := K) F.out.ok.K hk h he hplain
theorem callK0_ {pos : Pos} {f : Value} {first : List Value} {Q : Value → Shared → Prop} (F : Fm K env se S R₀ R l led s) (hk : keepIn K f = true) (h : wpAny (model prog w) A (call f first) Q E s) :
    wpAny (model prog w) A (callWith pos f first (backTo pos (starEach [] env)) []) Q E s :=
  callWith_K0 F.out.ok.K hk (by rw [List.append_nil]; exact h)
theorem callB_ {pos : Pos} {id : String} {first : List Value} {e : Expr} {rest : List Expr} {Q : Value → Shared → Prop} (h : wpAny (model prog w) A (spliced (backTo pos (starEach (e :: rest) env))) (fun vs s₁ => wpAny (model prog w) A (call (.builtin id) (first ++ vs)) Q E s₁) E s)
    (he : starEach (e :: rest) env = (false, eval e env) :: starEach rest env := by rfl)
    (hplain : (backTo pos (starEach rest env)).any (·.1) = false := by rfl) :
    wpAny (model prog w) A (callWith pos (.builtin id) first (backTo pos (starEach (e :: rest) env)) []) Q E s := by
  rw [he] at h ⊢
  exact callWith_builtin (by show (false || (backTo pos (starEach rest env)).any (·.1)) = false; rw [hplain]; rfl) (evalArgs_plain h)
theorem callB0_ {pos : Pos} {id : String} {first : List Value} {Q : Value → Shared → Prop} (h : wpAny (model prog w) A (call (.builtin id) first) Q E s) :
    wpAny (model prog w) A (callWith pos (.builtin id) first (backTo pos (starEach [] env)) []) Q E s := callWith_method0 h
theorem callB1_ {pos : Pos} {id : String} {e : Expr} {rest : List Expr} {Q : Value → Shared → Prop} (h : wpAny (model prog w) A (spliced (backTo pos (starEach (e :: rest) env))) (fun vs s₁ => wpAny (model prog w) A (call (.builtin id) vs) Q E s₁) E s)
    (he : starEach (e :: rest) env = (false, eval e env) :: starEach rest env := by rfl) (hplain : (backTo pos (starEach rest env)).any (·.1) = false := by rfl) :
    wpAny (model prog w) A (callWith pos (.builtin id) [] (backTo pos (starEach (e :: rest) env)) []) Q E s := callB_ h he hplain
theorem callBm_ {pos : Pos} {id : String} {x : Value} {e : Expr} {rest : List Expr} {Q : Value → Shared → Prop} (h : wpAny (model prog w) A (spliced (backTo pos (starEach (e :: rest) env))) (fun vs s₁ => wpAny (model prog w) A (call (.builtin id) (x :: vs)) Q E s₁) E s)
    (he : starEach (e :: rest) env = (false, eval e env) :: starEach rest env := by rfl) (hplain : (backTo pos (starEach rest env)).any (·.1) = false := by rfl) :
    wpAny (model prog w) A (callWith pos (.builtin id) [x] (backTo pos (starEach (e :: rest) env)) []) Q E s := callB_ h he hplain
theorem callK1_ {pos : Pos} {f : Value} {Q : Value → Shared → Prop} {e : Expr} {rest : List Expr} (F : Fm K env se S R₀ R l led s) (hk : keepIn K f = true)
    (h : wpAny (model prog w) A (spliced (backTo pos (starEach (e :: rest) env))) (fun vs s₁ => K.In s₁.heap ∧ wpAny (model prog w) A (call f vs) Q E s₁) E s)
    (he : starEach (e :: rest) env = (false, eval e env) :: starEach rest env := by rfl) (hplain : (backTo pos (starEach rest env)).any (·.1) = false := by rfl) :
    wpAny (model prog w) A (callWith pos f [] (backTo pos (starEach (e :: rest) env)) []) Q E s := callK_ F hk h he hplain
theorem callKm_ {pos : Pos} {f x : Value} {Q : Value → Shared → Prop} {e : Expr} {rest : List Expr} (F : Fm K env se S R₀ R l led s) (hk : keepIn K f = true)
    (h : wpAny (model prog w) A (spliced (backTo pos (starEach (e :: rest) env))) (fun vs s₁ => K.In s₁.heap ∧ wpAny (model prog w) A (call f (x :: vs)) Q E s₁) E s)
    (he : starEach (e :: rest) env = (false, eval e env) :: starEach rest env := by rfl) (hplain : (backTo pos (starEach rest env)).any (·.1) = false := by rfl) :
    wpAny (model prog w) A (callWith pos f [x] (backTo pos (starEach (e :: rest) env)) []) Q E s := callK_ F hk h he hplain
theorem callT1_ {pos : Pos} {T : String} {e : Expr} {rest : List Expr} {Q : Value → Shared → Prop} (h : wpAny (model prog w) A (spliced (backTo pos (starEach (e :: rest) env))) (fun vs s₁ => wpAny (model prog w) A (call (.type T) vs) Q E s₁) E s)
    (he : starEach (e :: rest) env = (false, eval e env) :: starEach rest env := by rfl) (hplain : (backTo pos (starEach rest env)).any (·.1) = false := by rfl) :
    wpAny (model prog w) A (callWith pos (.type T) [] (backTo pos (starEach (e :: rest) env)) []) Q E s := PyProof.Rows.callWith_type1 h he hplain
theorem inK_ {P : Prop} (F : Fm K env se S R₀ R l led s) (h : P) : K.In s.heap ∧ P := ⟨F.out.ok.K, h⟩
end

-- LP
/-- R' knows all that R knows -/
noncomputable def Le (R R' : Imm) : Prop := ∀ a o, R a = some o → R' a = some o
theorem Le.refl {R : Imm} : Le R R := fun _ _ h => h
theorem Le.trans {R R' R'' : Imm} (h : Le R R') (k : Le R' R'') : Le R R'' := fun a o e => k a o (h a o e)
theorem Le.put {R : Imm} {a : Addr} {o : Obj} (h : R a = none) : Le R (R.put a o) := Imm.put_mono h

inductive Part where
  | s (x : Str)
  | b (c : Bool)
  | i (n : Int)
  | l (xs : List Str)
noncomputable abbrev Note := Str × List Part

inductive PartR (R : Imm) : Value → Part → Prop
  | s {x t} : PartR R (.str x t) (.s x)
  | b {c} : PartR R (.bool c) (.b c)
  | i {n t} : PartR R (.int n t) (.i n)
  | l {a vs k xs} : R a = some (listOf vs.toArray k) → StrsAre vs xs → PartR R (.ref a) (.l xs)
inductive PartsR (R : Imm) : List Value → List Part → Prop
  | nil : PartsR R [] []
  | cons {v p vs ps} : PartR R v p → PartsR R vs ps → PartsR R (v :: vs) (p :: ps)
inductive NoteR (R : Imm) : Value → Note → Prop
  | mk {a p w t vs k k' ps} : R a = some (tupOf #[.str w t, .ref p] k) → R p = some (listOf vs.toArray k') → PartsR R vs ps → NoteR R (.ref a) (w, ps)
inductive NotesR (R : Imm) : List Value → List Note → Prop
  | nil : NotesR R [] []
  | cons {v p vs ps} : NoteR R v p → NotesR R vs ps → NotesR R (v :: vs) (p :: ps)

theorem PartR.mono {R R' : Imm} {v : Value} {p : Part} (k : Le R R') (h : PartR R v p) : PartR R' v p := by
  cases h with
  | s => exact .s
  | b => exact .b
  | i => exact .i
  | l h1 h2 => exact .l (k _ _ h1) h2
theorem PartsR.mono {R R' : Imm} {vs : List Value} {ps : List Part} (k : Le R R') (h : PartsR R vs ps) : PartsR R' vs ps := by
  induction h with
  | nil => exact .nil
  | cons h _ ih => exact .cons (h.mono k) ih
theorem NoteR.mono {R R' : Imm} {v : Value} {p : Note} (k : Le R R') (h : NoteR R v p) : NoteR R' v p := by
  cases h with
  | mk h1 h2 h3 => exact .mk (k _ _ h1) (k _ _ h2) (h3.mono k)
theorem NotesR.mono {R R' : Imm} {vs : List Value} {ps : List Note} (k : Le R R') (h : NotesR R vs ps) : NotesR R' vs ps := by
  induction h with
  | nil => exact .nil
  | cons h _ ih => exact .cons (h.mono k) ih
theorem NotesR.snoc {R : Imm} {vs : List Value} {ps : List Note} {v : Value} {p : Note} (h : NotesR R vs ps) (h' : NoteR R v p) : NotesR R (vs ++ [v]) (ps ++ [p]) := by
  induction h with
  | nil => exact .cons h' .nil
  | cons h _ ih => exact .cons h ih
theorem NotesR.length {R : Imm} {vs : List Value} {ps : List Note} (h : NotesR R vs ps) : vs.length = ps.length := by
  induction h with
  | nil => rfl
  | cons _ _ ih => rw [List.length_cons, List.length_cons, ih]
theorem PartsR.length {R : Imm} {vs : List Value} {ps : List Part} (h : PartsR R vs ps) : vs.length = ps.length := by
  induction h with
  | nil => rfl
  | cons _ _ ih => rw [List.length_cons, List.length_cons, ih]
theorem StrsAre.length' {vs : List Value} {xs : List Str} (h : StrsAre vs xs) : vs.length = xs.length := by
  induction h with
  | nil => rfl
  | cons _ _ _ ih => rw [List.length_cons, List.length_cons, ih]
theorem StrsAre.app {vs us : List Value} {xs ys : List Str} (h : StrsAre vs xs) (h' : StrsAre us ys) : StrsAre (vs ++ us) (xs ++ ys) := by
  induction h with
  | nil => exact h'
  | cons y t _ ih => exact .cons y t ih
theorem StrsAre.parts {R : Imm} {vs : List Value} {xs : List Str} (h : StrsAre vs xs) : PartsR R vs (xs.map .s) := by
  induction h with
  | nil => exact .nil
  | cons y t _ ih => exact .cons .s ih
theorem StrsAre.takes {vs : List Value} {xs : List Str} (h : StrsAre vs xs) (n : Nat) : StrsAre (vs.take n) (xs.take n) := by
  induction h generalizing n with
  | nil => simp; exact .nil
  | cons y t _ ih =>
    cases n with
    | zero => exact .nil
    | succ n => exact .cons y t (ih n)
theorem StrsAre.drops {vs : List Value} {xs : List Str} (h : StrsAre vs xs) (n : Nat) : StrsAre (vs.drop n) (xs.drop n) := by
  induction h generalizing n with
  | nil => simp; exact .nil
  | cons y t h ih =>
    cases n with
    | zero => exact .cons y t h
    | succ n => exact ih n

/-- words -/
noncomputable def wOk (x : Str) : Prop := PySem.PyData.strOk x = true
noncomputable def Part.text : Part → Str
  | .s x => x
  | .b c => if c = true then Str.ofString "True" else Str.ofString "False"
  | .i n => Str.ofString (toString n)
  | .l xs => Str.ofString "[" ++ Txt.join (Str.ofString ";") xs ++ Str.ofString "]"
noncomputable def saidT (w : Str) (ps : List Part) : Str :=
  Txt.slice w none (some 1) ++ Str.ofString "(" ++ Txt.join (Str.ofString ",") (ps.map Part.text) ++ Str.ofString ")"
noncomputable def gone (w : Str) (ps : List Part) : Bool := (w == Str.ofString "read") && (match ps with | .s x :: _ => x == Str.ofString "GONE" | _ => false)
noncomputable def said (w : Str) (ps : List Part) : Option Str := if gone w ps = true then none else some (saidT w ps)

/-- the orders -/
inductive Sim where
  | var (x : Str) | push (x : Str) | ref (x : Str) | kw (x : Str) | del (x : Str)
  | un (x : Str) | value | indirect | cursor | call (f : Str) (n : Nat) (c : Bool) | double | item (n : Nat) (c : Bool) | bin (x : Str) | join | given (x : Str)
inductive Ord where
  | sim (o : Sim)
  | not (b : List Ord)
inductive Lit where
  | s (x : Str) | i (n : Int) | b (c : Bool)
inductive LitsAre : List Value → List Lit → Prop
  | nil : LitsAre [] []
  | s {x t vs ls} : LitsAre vs ls → LitsAre (.str x t :: vs) (.s x :: ls)
  | i {n t vs ls} : LitsAre vs ls → LitsAre (.int n t :: vs) (.i n :: ls)
  | b {c vs ls} : LitsAre vs ls → LitsAre (.bool c :: vs) (.b c :: ls)
noncomputable def Sim.lits : Sim → List Lit
  | .var x => [.s "VAR", .s x]
  | .push x => [.s "PUSH", .s x]
  | .ref x => [.s "REF", .s x]
  | .kw x => [.s "KEYWORD", .s x]
  | .del x => [.s "DELAYED", .s x]
  | .un x => [.s "UNARY", .s x]
  | .value => [.s "VALUE"]
  | .indirect => [.s "INDIRECT"]
  | .cursor => [.s "CURSOR"]
  | .call f n c => [.s "CALL", .s f, .i n, .b c]
  | .double => [.s "DOUBLE"]
  | .item n c => [.s "ITEM", .i n, .b c]
  | .bin x => [.s "BINARY", .s x]
  | .join => [.s "JOIN"]
  | .given x => [.s "GIVEN", .s x]
mutual
inductive OrdR (R : Imm) : Value → Ord → Prop
  | sim {a vs k o} : R a = some (tupOf vs.toArray k) → LitsAre vs (Sim.lits o) → OrdR R (.ref a) (.sim o)
  | not {a bl t k vs n b} : R a = some (tupOf #[.str "NOT" t, .ref bl] k) → R bl = some (listOf vs.toArray n) → OrdsR R vs b → OrdR R (.ref a) (.not b)
inductive OrdsR (R : Imm) : List Value → List Ord → Prop
  | nil : OrdsR R [] []
  | cons {v o vs os} : OrdR R v o → OrdsR R vs os → OrdsR R (v :: vs) (o :: os)
end
mutual
theorem OrdR.mono {R R' : Imm} {v : Value} {o : Ord} (k : Le R R') : OrdR R v o → OrdR R' v o
  | .sim h1 h2 => .sim (k _ _ h1) h2
  | .not h1 h2 h3 => .not (k _ _ h1) (k _ _ h2) (h3.mono k)
theorem OrdsR.mono {R R' : Imm} {vs : List Value} {os : List Ord} (k : Le R R') : OrdsR R vs os → OrdsR R' vs os
  | .nil => .nil
  | .cons h1 h2 => .cons (h1.mono k) (h2.mono k)
end
theorem OrdsR.length {R : Imm} {vs : List Value} {os : List Ord} (h : OrdsR R vs os) : vs.length = os.length := by
  induction os generalizing vs with
  | nil => cases h; rfl
  | cons o os ih => cases h with | cons h1 h2 => rw [List.length_cons, List.length_cons, ih h2]
theorem OrdsR.snoc {R : Imm} {vs : List Value} {os : List Ord} {v : Value} {o : Ord} (h : OrdsR R vs os) (h' : OrdR R v o) : OrdsR R (vs ++ [v]) (os ++ [o]) := by
  induction os generalizing vs with
  | nil => cases h; exact .cons h' .nil
  | cons o os ih => cases h with | cons h1 h2 => exact .cons h1 (ih h2)

/-- what a plain order takes, asks and leaves -/
noncomputable def Sim.many : Sim → Nat
  | .var _ | .push _ | .ref _ | .kw _ | .del _ | .double => 0
  | .un _ | .value | .indirect | .cursor => 1
  | .call _ n _ => n
  | .item n _ => n + 1
  | .bin _ | .join | .given _ => 2
noncomputable def Sim.asks : Sim → List Str → Note
  | .var x, _ => ("read", [.s x])
  | .ref x, _ => ("var", [.s x])
  | .kw x, _ => ("keyword", [.s x])
  | .del x, _ => ("delayed", [.s x])
  | .un x, u => ("operator", [.s x, .l u])
  | .bin x, u => ("operator", [.s x, .l u])
  | .join, u => ("operator", [.s " ", .l u])
  | .value, u => ("value", u.map .s)
  | .indirect, u => ("indirect", u.map .s)
  | .cursor, u => ("cursor", u.map .s)
  | .call f _ c, u => ("call", [.s f, .l u, .b c])
  | .item _ c, u => ("item", [.s (u.headD ""), .l u.tail, .b c])
  | .given x, u => ("given", .s x :: u.map .s)
  | .push _, _ | .double, _ => ("", [])
noncomputable def Sim.quiet : Sim → Bool
  | .push _ | .double => true
  | _ => false
noncomputable def base (o : Sim) (st : List Str) : List Str := st.take (st.length - o.many)
noncomputable def under (o : Sim) (st : List Str) : List Str := st.drop (st.length - o.many)
noncomputable def step (o : Sim) (st : List Str) (ns : List Note) : Option (List Str) × List Note := match o with
  | .push x => (some (st ++ [x]), ns)
  | .double => (some (st ++ [st.getLastD ""]), ns)
  | o => ((said (o.asks (under o st)).1 (o.asks (under o st)).2).map fun x => base o st ++ [x], ns ++ [o.asks (under o st)])
mutual
noncomputable def goesO : Ord → List Str → List Note → Option (List Str) × List Note
  | .sim o, st, ns => step o st ns
  | .not b, st, ns => match goesB b st ns with
    | (some _, ns') => (none, ns')
    | (none, ns') => (some (st ++ [Str.ofString ""]), ns')
noncomputable def goesB : List Ord → List Str → List Note → Option (List Str) × List Note
  | [], st, ns => (some st, ns)
  | o :: r, st, ns => match goesO o st ns with
    | (none, ns') => (none, ns')
    | (some st', ns') => goesB r st' ns'
end

/-- what blocks are drawn -/
noncomputable def short (x : Str) : Bool := PySem.PyData.strOk x && decide (x.length ≤ 10)
noncomputable def Sim.ok : Sim → Bool
  | .var x | .push x | .ref x | .kw x | .del x | .un x | .bin x | .given x => short x
  | .call f n _ => short f && decide (n ≤ 1000)
  | .item n _ => decide (n ≤ 1000)
  | _ => true
noncomputable def Sim.need : Sim → Nat
  | .double => 1
  | o => o.many
mutual
noncomputable def okO : Nat → Ord → Nat → Option Nat
  | _, .sim o, h => if o.ok = true ∧ o.need ≤ h then some (h - o.many + 1) else none
  | 0, .not _, _ => none
  | d + 1, .not b, h => if b.length ≤ 5 then (okB d b 0).map fun _ => h + 1 else none
noncomputable def okB : Nat → List Ord → Nat → Option Nat
  | _, [], h => some h
  | d, o :: r, h => (okO d o h).bind fun h' => okB d r h'
end

-- LE
section
variable {prog : Program} {w : World} {K : Frag} {env : Env} {se s s' : Shared} {S S₀ : List Addr} {R₀ R R' : Imm} {l l' : List (Str × Option Value)} {led led' l1 l1' l2 : Ledger} {A : Around} {E : Value → Shared → Prop}

theorem ex_ {e : Expr} {pos : Pos} {Q : Flow → Shared → Prop} (F : Fm K env se S R₀ R l led s) (h : wpAny (model prog w) A (eval e env) (fun _ => Q .next) E s) (hs : swapsWith e none pos.line env = pure false := by with_unfolding_all rfl) :
    wpAny (model prog w) A (exec (.Expr e pos) env) Q E s :=
  wpAny_Expr_any h (by unfold interactive; rw [F.kind]; rfl) hs

/-- a dict display of written pairs -/
theorem dl_ {keys : List (Option Expr)} {values : List Expr} {pos : Pos} {D : List (PyData × PyData)} {Q : Value → Shared → Prop} (F : Fm K env se S R₀ R l led s) (hD : litPairs keys values = some D) (hs : strKeyed D = true) (hn : (strKeysOf D).Nodup)
    (hall : keys.all (·.isSome) = true) (hl : keys.length = values.length) (h0 : keys ≠ []) (hlen : keys.length ≤ 15)
    (h : ∀ a o s', TabObj (strKind prog w) PyData.str D o → (a == sysModules) = false → Fm K env se S R₀ R l ((a, o) :: led) s' → se.heap.get? a = none → Q (.ref a) s') : wpAny (model prog w) A (eval (.Dict keys values pos) env) Q E s := by
  refine Dict_lits_str hD hs hn hall hl h0 hlen fun a o h₁ tk ha ho ht k => ?_
  have hz : s.heap.get? a = none := Heap.get?_none_of_le ha
  obtain ⟨q1, q2, q3, q4⟩ := F.fresh hz
  refine h a o _ ht ?_ ((F.ext k).addNew q1 q2 q3 q4 ho) q3
  obtain ⟨mc, hc, _⟩ := F.out.ok.nolimit
  have hlt : cStatics < s.heap.objs.size := hc.lt
  have h2 : (cStatics : Nat) = 2 := rfl
  have h1 : (sysModules : Nat) = 1 := rfl
  simp only [beq_eq_false_iff_ne, ne_eq]
  intro e
  have ha' : (s.heap.objs.size : Nat) ≤ a := ha
  rw [e, h1] at ha'
  have hlt' : (2 : Nat) < s.heap.objs.size := hlt
  omega
theorem Fm.tab {a : Addr} {o : Obj} {D : List (PyData × PyData)} (F : Fm K env se S R₀ R l led s) (hm : InL a o led) (ht : TabObj (strKind prog w) PyData.str D o) (ha : (a == sysModules) = false) : StrTab prog w s.heap a D := by
  obtain ⟨kvs, h1, h2⟩ := ht
  exact ⟨ha, kvs, Heap.dictOf_iff.mpr ⟨o, F.lgr.here _ hm.mem, h1⟩, h2⟩
theorem dgm_ {pl : Sem Bool} {a : Addr} {o : Obj} {D : List (PyData × PyData)} {Q : Value × List Value → Shared → Prop} (F : Fm K env se S R₀ R l led s) (ht : TabObj (strKind prog w) PyData.str D o) (ha : (a == sysModules) = false) (hm : InL a o led)
    (h : Q (.builtin "dict.get", [.ref a]) s) : wpAny (model prog w) A (getMethod (.ref a) (Str.ofString "get") pl) Q E s := getMethod_strTab_get (F.tab hm ht ha) h
theorem dg2_ {a : Addr} {o : Obj} {D : List (PyData × PyData)} {x : Str} {t : Tok} {dflt : Value} {dd : PyData} {Q : Value → Shared → Prop} (F : Fm K env se S R₀ R l led s) (ht : TabObj (strKind prog w) PyData.str D o) (ha : (a == sysModules) = false) (hm : InL a o led)
    (hd : PyProof.V.Flat dflt dd) (h : ∀ v s', PyProof.V.Flat v ((Spec.lookup (.str x) D).getD dd) → Fm K env se S R₀ R l led s' → Q v s') : wpAny (model prog w) A (call (.builtin "dict.get") [.ref a, .str x t, dflt]) Q E s :=
  call_get2_strTab (F.tab hm ht ha) hd fun v hv => h v _ hv F.toks
theorem Fm.pop1 {p : Addr × Obj} (F : Fm K env se S R₀ R l (p :: led) s) : Fm K env se S R₀ R l led s := F.drop

/-- range(n) -/
theorem range_ {n : Int} {t : Tok} {Q : Value → Shared → Prop} (F : Fm K env se S R₀ R l led s)
    (h : ∀ a t u s', Fm K env se S R₀ R l ((a, { cls := .type "range", data := .fields #[.int 0 t, .int n t', .int 1 u] }) :: led) s' → se.heap.get? a = none → Q (.ref a) s') : wpAny (model prog w) A (call (.type "range") [.int n t']) Q E s :=
  call_range_1 (h _ _ _ _ ((F.push rfl).toks) F.size_se)
theorem iterR_ {a : Addr} {n : Nat} {t u v : Tok} {Q : Value → Shared → Prop} (F : Fm K env se S R₀ R l ((a, { cls := .type "range", data := .fields #[.int 0 t, .int n u, .int 1 v] }) :: led) s) (hn : n < 100000)
    (h : ∀ it s', se.heap.get? it = none → Fm K env se S R₀ R l ((it, riObj 0 n 1) :: led) s' → Q (.ref it) s') : wpAny (model prog w) A (pyIter (.ref a)) Q E s := by
  have hr : IsRange s.heap a 0 n 1 t u v := F.lgr.here _ (.head _)
  refine wpAny_pyIter_range hr ?_ ?_
  · exact small_one (by omega) (by omega) (by omega) (by omega)
  · have e : Builtin.Range.rangeSize 0 (n : Int) 1 = (n : Int) := rangeSize_nat _ _
    rw [e]
    exact h _ _ F.size_se ((F.push (o := riObj 0 n 1) rfl).swap.drop)

/-- texts -/
theorem joinL_ {a : Addr} {its : Array Value} {ys : List Str} {x : Str} {t : Tok} {Q : Value → Shared → Prop} (F : Fm K env se S R₀ R l led s) (hl : s.heap.IsList a its) (hi : StrsAre its.toList ys) (hx : x.length ≤ 64) (hz : (ys.map (·.length)).sum + ys.length * 64 ≤ 16777216)
    (h : ∀ t s', Fm K env se S R₀ R l led s' → Q (.str (Txt.join x ys) t) s') : wpAny (model prog w) A (call (.builtin "str.join") [.str x t, .ref a]) Q E s := join_listC hl hi hx hz fun t' k => h _ _ F.toks
theorem gmJoin_ {x : Str} {t : Tok} {pl : Sem Bool} {Q : Value × List Value → Shared → Prop} (h : Q (.builtin "str.join", [.str x t]) s) : wpAny (model prog w) A (getMethod (.str x t) (Str.ofString "join") pl) Q E s := GM.join h
theorem gmLower_ {x : Str} {t : Tok} {pl : Sem Bool} {Q : Value × List Value → Shared → Prop} (h : Q (.builtin "str.lower", [.str x t]) s) : wpAny (model prog w) A (getMethod (.str x t) (Str.ofString "lower") pl) Q E s := GM.lower h
theorem lower_ {x : Str} {t : Tok} {Q : Value → Shared → Prop} (F : Fm K env se S R₀ R l led s) (hx : x.length ≤ 1000) (h : ∀ t s', Fm K env se S R₀ R l led s' → Q (.str (Txt.lower x) t) s') : wpAny (model prog w) A (call (.builtin "str.lower") [.str x t]) Q E s :=
  SCL.lower (by omega) fun _ => h _ _ F.toks
theorem strS_ {x : Str} {t : Tok} {Q : Value → Shared → Prop} (h : Q (.str x t) s) : wpAny (model prog w) A (call (.type "str") [.str x t]) Q E s := P.str_of_str h
theorem strB_ {c : Bool} {Q : Value → Shared → Prop} (F : Fm K env se S R₀ R l led s) (h : ∀ t s', Fm K env se S R₀ R l led s' → Q (.str (if c = true then Str.ofString "True" else Str.ofString "False") t) s') : wpAny (model prog w) A (call (.type "str") [.bool c]) Q E s := P.str_of_bool (h _ _ F.toks)
theorem strI_ {n : Int} {t : Tok} {Q : Value → Shared → Prop} (F : Fm K env se S R₀ R l led s) (hn : n.natAbs < 1000000) (h : ∀ t s', Fm K env se S R₀ R l led s' → Q (.str (Str.ofString (toString n)) t) s') : wpAny (model prog w) A (call (.type "str") [.int n t]) Q E s :=
  P.str_of_int (by
    by_cases h0 : n.natAbs = 0
    · rw [h0]; decide
    · exact Nat.lt_trans ((Nat.log2_lt h0).mpr (show n.natAbs < 2 ^ 20 by omega)) (by decide)) (h _ _ F.toks)
theorem isiS_ {x : Str} {t : Tok} {Q : Value → Shared → Prop} (F : Fm K env se S R₀ R l led s) (h : ∀ s', Fm K env se S R₀ R l led s' → Q (.bool false) s') : wpAny (model prog w) A (call (.builtin "isinstance") [.str x t, .type "list"]) Q E s := IsiPair.str_list (h _ F.toks)
theorem isiB_ {c : Bool} {Q : Value → Shared → Prop} (F : Fm K env se S R₀ R l led s) (h : ∀ s', Fm K env se S R₀ R l led s' → Q (.bool false) s') : wpAny (model prog w) A (call (.builtin "isinstance") [.bool c, .type "list"]) Q E s := IsiPair.bool_list (h _ F.toks)
theorem isiI_ {n : Int} {t : Tok} {Q : Value → Shared → Prop} (F : Fm K env se S R₀ R l led s) (h : ∀ s', Fm K env se S R₀ R l led s' → Q (.bool false) s') : wpAny (model prog w) A (call (.builtin "isinstance") [.int n t, .type "list"]) Q E s := IsiPair.int_list (h _ F.toks)
theorem isiL_ {a : Addr} {its : Array Value} {Q : Value → Shared → Prop} (hl : s.heap.IsList a its) (h : Q (.bool true) s) : wpAny (model prog w) A (call (.builtin "isinstance") [.ref a, .type "list"]) Q E s :=
  let ⟨o, ho, hc, _⟩ := hl; IsiPair.list_list ho hc h

/-- slices -/
noncomputable abbrev slObj (a b : Value) : Obj := { cls := .type "slice", data := .fields #[a, b, .none] }
theorem slice_ {lo hi : Option Expr} {p : Pos} {Q : Value → Shared → Prop}
    (h : wpAny (model prog w) A (evalPart lo env) (fun a s₁ => wpAny (model prog w) A (evalPart hi env) (fun b s₂ => Q (.ref s₂.heap.objs.size) { s₂ with heap := s₂.heap.push (slObj a b) }) E s₁) E s) :
    wpAny (model prog w) A (eval (.Slice lo hi none p) env) Q E s :=
  wpAny_Slice (wpAny_mono h (fun _ _ h₁ => wpAny_mono h₁ (fun _ _ h₂ => wpAny_evalPart_none h₂) fun _ _ e => e) fun _ _ e => e)
/-- x[:j] of a text -/
theorem sliceS_ {value slice : Expr} {x : Str} {t uj : Tok} {j : Int} {Q : Value → Shared → Prop} (F : Fm K env se S R₀ R l led s) (hx : x.length ≤ 1000000)
    (h : ∀ t s', Fm K env se S R₀ R l led s' → Q (.str (Txt.slice x none (some j)) t) s')
    (h1 : subscripted slice false (.str x t) (.ref s.heap.objs.size) = operate [.ref s.heap.objs.size, .str x t] (getItem (.str x t) (.ref s.heap.objs.size)) := by with_unfolding_all rfl)
    (h2 : ∀ r, letTemporaryGo value (.str x t) r = pure () := by intro _; with_unfolding_all rfl) :
    wpAny (model prog w) A (subscriptTail value slice (.str x t) (.ref s.heap.objs.size)) Q E { s with heap := s.heap.push (slObj .none (.int j uj)) } := by
  obtain ⟨m, hm, hm'⟩ := F.ns
  refine slice_strN_ns (libFr hm) (libNews s.heap env.locals [env.locals] (.head _)) (fun h' t' k F1 N1 => h _ _ (F.fromLib hm' F1.ns fun b o hb e => (N1 _ (allBut_mem (by simpa using hb) e)).1)) h1 h2 (by rw [sizeLine_eq]; omega)
/-- xs[lo:hi] of a list: a new list -/
theorem sliceL_ {value slice : Expr} {a : Addr} {its : Array Value} {vl vu : Value} {lo hi : Option Int} {Q : Value → Shared → Prop} (F : Fm K env se S R₀ R l led s) (hl : s.heap.IsList a its) (p1 : IsPart vl lo) (p2 : IsPart vu hi) (hz : its.size ≤ 100000)
    (h : ∀ c s', Fm K env se S R₀ R l ((c, listOf (slicePick its lo hi none) 0) :: led) s' → se.heap.get? c = none → Q (.ref c) s')
    (h1 : subscripted slice false (.ref a) (.ref s.heap.objs.size) = operate [.ref s.heap.objs.size, .ref a] (getItem (.ref a) (.ref s.heap.objs.size)) := by with_unfolding_all rfl) :
    wpAny (model prog w) A (subscriptTail value slice (.ref a) (.ref s.heap.objs.size)) Q E { s with heap := s.heap.push (slObj vl vu) } := by
  have F1 := F.push (o := slObj vl vu) rfl
  have hl' : (s.heap.push (slObj vl vu)).IsList a its := hl.push _
  refine tail_any (s := { s with heap := s.heap.push (slObj vl vu) }) hl'.typeIs slot_list_getitem.lookup (wpAny_getItem_list_slice hl' ⟨_, Heap.get?_push_size _ rfl, rfl, rfl⟩ p1 p2 .none (by intro e; cases e) ?_ (by rw [sizeLine_eq]; omega)) h1
  exact h _ _ ((F1.push rfl).swap.drop) F1.size_se

theorem isNone_ {v : Value} {Q : Value → Shared → Prop} (hv : (match v with | .builtin _ => false | _ => true) = true) (h : Q (.bool (v == .none)) s) : wpAny (model prog w) A (compareOp .Is v .none) Q E s :=
  wpAny_is_plain (by cases v <;> first | rfl | cases hv) h
theorem isNotNone_ {v : Value} {Q : Value → Shared → Prop} (hv : (match v with | .builtin _ => false | _ => true) = true) (h : Q (.bool (!(v == .none))) s) : wpAny (model prog w) A (compareOp .IsNot v .none) Q E s :=
  wpAny_isNot_plain (by cases v <;> first | rfl | cases hv) h
/-- x in (a tuple of written words) -/
theorem inT_ {a : Addr} {vs : List Value} {ys : List Str} {x : Str} {t : Tok} {n : Nat} {Q : Value → Shared → Prop} (F : Fm K env se S R₀ R l led s) (hm : InL a (tupOf vs.toArray n) led) (hy : StrsAre vs ys) (h : Q (.bool (ys.any (· == x))) s) :
    wpAny (model prog w) A (compareOp .In (.str x t) (.ref a)) Q E s :=
  in_tuple_strs ⟨_, F.lgr.here _ hm.mem, rfl, n, rfl⟩ (by simpa using hy) h
theorem eqF_ {x y : Str} {t u : Tok} {Q : Value → Shared → Prop} (hx : x ≠ y) (h : Q (.bool false) s) : wpAny (model prog w) A (compareOp .Eq (.str x t) (.str y u)) Q E s := eq_str (by rw [beq_eq_false_iff_ne.mpr hx]; exact h)
theorem eqT_ {x : Str} {t u : Tok} {Q : Value → Shared → Prop} (h : Q (.bool true) s) : wpAny (model prog w) A (compareOp .Eq (.str x t) (.str x u)) Q E s := eq_str (by rw [beq_self_eq_true]; exact h)
end

-- LF
theorem PartsR.get {R : Imm} {vs : List Value} {ps : List Part} (h : PartsR R vs ps) {i : Nat} {v : Value} (hv : vs[i]? = some v) : ∃ p, ps[i]? = some p ∧ PartR R v p := by
  induction h generalizing i with
  | nil => simp at hv
  | cons h1 _ ih =>
    cases i with
    | zero => simp at hv; subst hv; exact ⟨_, rfl, h1⟩
    | succ i => simp at hv ⊢; exact ih hv
theorem take_succ_get {α : Type} {xs : List α} {i : Nat} {x : α} (h : xs[i]? = some x) : xs.take (i + 1) = xs.take i ++ [x] := by
  rw [List.take_succ, h]; rfl
theorem StrsAre.snoc' {vs : List Value} {xs : List Str} {x : Str} {t : Tok} (h : StrsAre vs xs) : StrsAre (vs ++ [.str x t]) (xs ++ [x]) := StrsAre.app h (.cons x t .nil)
theorem join_length_le' (sep : Str) (xs : List Str) (h : sep.length ≤ 1) : (Txt.join sep xs).length ≤ (xs.map (·.length)).sum + xs.length := by
  have h1 := StrLaws.join_length_le sep xs
  have h2 : xs.length * sep.length ≤ xs.length * 1 := Nat.mul_le_mul_left _ h
  have h3 : Txt.join sep xs = Str.join sep xs := StrLaws.glued_eq_join sep xs
  rw [h3]; omega
section
variable {prog : Program} {w : World} {K : Frag} {env : Env} {se s s' : Shared} {S S₀ : List Addr} {R₀ R R' : Imm} {l l' : List (Str × Option Value)} {led led' l1 l1' l2 : Ledger} {A : Around} {E : Value → Shared → Prop}
theorem cutF_ {α : Type} {t : Sem α} {Q : α → Shared → Prop} (F : Fm K env se S R₀ R l led s) (c : α) (h1 : wpAny (model prog w) A t (fun b s₂ => b = c ∧ Fm K env se S R₀ R l led s₂) E s)
    (h2 : ∀ s', Fm K env se S R₀ R l led s' → Q c s') : wpAny (model prog w) A t Q E s := wpAny_mono h1 (fun a s' q => q.1 ▸ h2 s' q.2) fun _ _ e => e
/-- xs.append(v) on a list of the ledger, as lists -/
theorem appL_ {a : Addr} {vs : List Value} {n : Nat} {v : Value} {Q : Value → Shared → Prop} (F : Fm K env se S R₀ R l led s) (U : UpdL a (listOf vs.toArray n) (listOf (vs ++ [v]).toArray (n + 1)) led led') (hz : vs.length ≤ 100000)
    (h : ∀ s', Fm K env se S R₀ R l led' s' → Q .none s') : wpAny (model prog w) A (call (.builtin "list.append") [.ref a, v]) Q E s :=
  app_ (its := vs.toArray) F (by rw [List.push_toArray]; exact U) (by simpa using hz) h
end

-- LI
theorem Led.nil {R : Imm} {s : Shared} : Led R [] s := ⟨List.nodup_nil, (fun _ h => nomatch h), (fun _ h => nomatch h)⟩
noncomputable def Part.fits : Part → Prop
  | .l xs => (xs.map (·.length)).sum + xs.length * 64 ≤ 8000000
  | .i n => n.natAbs < 1000000
  | _ => True
structure SaidOk (wd : Str) (ps : List Part) : Prop where
  wl : wd.length ≤ 20
  gn : wd = Str.ofString "read" → ∃ x r, ps = .s x :: r
  mt : wd = Str.ofString "match" → ∃ a b, ps = [.s a, .s b] ∧ a.length + b.length ≤ 1000
  ft : ∀ p ∈ ps, p.fits
  sz : ((ps.map Part.text).map (·.length)).sum ≤ 8000000
  ln : ps.length ≤ 20
inductive Ans where
  | none | s (x : Str) | i (n : Int)
noncomputable def AnsV : Value → Ans → Prop
  | v, .none => v = .none
  | v, .s x => ∃ t, v = .str x t
  | v, .i n => ∃ t, v = .int n t
noncomputable def Ans.of : Option Str → Ans
  | Option.none => Ans.none
  | Option.some x => .s x
noncomputable def ans (wd : Str) (ps : List Part) : Ans := if wd = Str.ofString "match" then (match ps with
    | [.s a, .s b] => if (a ++ b).length % 4 = 0 then .none else .i a.length
    | _ => .none)
  else .of (said wd ps)
theorem AnsV.of {v : Value} {wd : Str} {ps : List Part} (hw : wd ≠ Str.ofString "match") (h : AnsV v (ans wd ps)) : AnsV v (.of (said wd ps)) := by
  unfold ans at h; rw [if_neg hw] at h; exact h
noncomputable def FnR (R : Imm) (a : Addr) : Prop := ∃ o fd, R a = some o ∧ o.data = .func fd
structure GetsK (K : Frag) (C : Addr) (name : Str) : Prop where
  g : plainGet K C name = true
  d : hasDictIn K C = true
  a : findIn K (.ref C) name = some none
structure SetsK (K : Frag) (C : Addr) (name : Str) : Prop where
  s : findIn K (.ref C) "__setattr__" = some (some (.builtin "object.__setattr__"))
  p : plainOver K C = true
  t : takerIn K C name = some none
  d : hasDictIn K C = true
structure MethsK (K : Frag) (C : Addr) (name : Str) (f : Addr) : Prop where
  g : plainGet K C name = true
  i : findIn K (.ref C) name = some (some (.ref f))
  t : typeIn K (.ref f) = some (.type "function")
theorem pick_from {vs : List Value} (k : Nat) : slicePick vs.toArray (some (k : Int)) none none = (vs.drop k).toArray := by
  rw [kms_pick_eq]
  unfold kms_pick kms_lo kms_hi
  simp only [List.toList_toArray]
  congr 1
  have h0 : ¬ ((k : Int) < 0) := by omega
  by_cases h : k ≤ vs.length
  · have e : min k vs.length = k := Nat.min_eq_left h
    simp only [h0, if_false, Int.toNat_natCast, e]
    exact List.take_of_length_le (by rw [List.length_drop]; omega)
  · have e : min k vs.length = vs.length := Nat.min_eq_right (by omega)
    simp [h0, e, List.drop_eq_nil_of_le (show vs.length ≤ k by omega)]
theorem pick_to {vs : List Value} (k : Nat) : slicePick vs.toArray none (some (k : Int)) none = (vs.take k).toArray := by
  rw [kms_pick_eq]
  unfold kms_pick kms_lo kms_hi
  simp only [List.toList_toArray]
  congr 1
  have h0 : ¬ ((k : Int) < 0) := by omega
  simp only [h0, if_false, List.drop_zero, Nat.sub_zero, Int.toNat_natCast]
  exact kmk_take_min ..
theorem pick_all {vs : List Value} : slicePick vs.toArray none none none = vs.toArray := by rw [slicePick_all]
theorem drop_last1 {st : List Str} (h : 0 < st.length) : st.drop (st.length - 1) = [st.getLastD ""] := by
  rcases List.eq_nil_or_concat st with rfl | ⟨bs, y, rfl⟩
  · simp at h
  · simp [List.getLastD_eq_getLast?]
theorem take_last1 {st : List Str} (h : 0 < st.length) : st = st.take (st.length - 1) ++ [st.getLastD ""] := by
  rw [← drop_last1 h, List.take_append_drop]
theorem StrsAre.split1 {vs : List Value} {st : List Str} (hs : StrsAre vs st) (h : 0 < st.length) : ∃ us t, vs = us ++ [.str (st.getLastD "") t] ∧ StrsAre us (st.take (st.length - 1)) := by
  have h1 := StrsAre.takes hs (st.length - 1)
  have h2 := StrsAre.drops hs (st.length - 1)
  rw [drop_last1 h] at h2
  generalize hd2 : vs.drop (st.length - 1) = ds at h2
  rcases h2 with _ | ⟨y, t, h3⟩
  cases h3
  exact ⟨vs.take (st.length - 1), t, by rw [← hd2, List.take_append_drop], h1⟩
section
variable {prog : Program} {w : World} {K : Frag} {env : Env} {se s s' : Shared} {S S₀ : List Addr} {R₀ R R' : Imm} {l l' : List (Str × Option Value)} {led led' l1 l1' l2 : Ledger} {A : Around} {E : Value → Shared → Prop}

theorem Fm.inst {x C dx : Addr} {od : Obj} (F : Fm K env se S R₀ R l led s) (hx : R x = some (instObj C dx)) (hd : s.heap.get? dx = some od) : InstAt s.heap x (instObj C dx) C (some od) := ⟨F.out.ok.sub _ _ hx, rfl, rfl, hd⟩
theorem Fm.rot3 {a b c : Addr × Obj} (F : Fm K env se S R₀ R l (a :: b :: c :: led) s) : Fm K env se S R₀ R l (c :: a :: b :: led) s :=
  F.perm (((List.Perm.swap a c [b]).trans ((List.Perm.swap b c []).cons a)).append_right led)
theorem Fm.rot3' {a b c : Addr × Obj} (F : Fm K env se S R₀ R l (c :: a :: b :: led) s) : Fm K env se S R₀ R l (a :: b :: c :: led) s :=
  F.perm ((((List.Perm.swap b c []).cons a).symm.trans (List.Perm.swap a c [b]).symm).append_right led)
theorem inTt_ {a : Addr} {vs : List Value} {ys : List Str} {x : Str} {t : Tok} {n : Nat} {Q : Value → Shared → Prop} (F : Fm K env se S R₀ R l led s) (hm : InL a (tupOf vs.toArray n) led) (hy : StrsAre vs ys) (hb : ys.any (· == x) = true) (h : Q (.bool true) s) :
    wpAny (model prog w) A (compareOp .In (.str x t) (.ref a)) Q E s := inT_ F hm hy (by rw [hb]; exact h)
theorem inTf_ {a : Addr} {vs : List Value} {ys : List Str} {x : Str} {t : Tok} {n : Nat} {Q : Value → Shared → Prop} (F : Fm K env se S R₀ R l led s) (hm : InL a (tupOf vs.toArray n) led) (hy : StrsAre vs ys) (hb : ys.any (· == x) = false) (h : Q (.bool false) s) :
    wpAny (model prog w) A (compareOp .In (.str x t) (.ref a)) Q E s := inT_ F hm hy (by rw [hb]; exact h)

theorem Fm.after3 {p q r : Addr × Obj} {S₀ : List Addr} {R' : Imm} {l1' l2 : Ledger} {s' : Shared} (F : Fm K env se S₀ R₀ R l (p :: q :: r :: l2) s) (P : Post K s [p.1, q.1, r.1] R R' l1' s') : Fm K env se S₀ R₀ R' l (l1' ++ l2) s' := Fm.after (l1 := [p, q, r]) F P
theorem Fm.after4 {p q r u : Addr × Obj} {S₀ : List Addr} {R' : Imm} {l1' l2 : Ledger} {s' : Shared} (F : Fm K env se S₀ R₀ R l (p :: q :: r :: u :: l2) s) (P : Post K s [p.1, q.1, r.1, u.1] R R' l1' s') : Fm K env se S₀ R₀ R' l (l1' ++ l2) s' := Fm.after (l1 := [p, q, r, u]) F P
theorem neF_ {x : Str} {t u : Tok} {Q : Value → Shared → Prop} (h : Q (.bool false) s) : wpAny (model prog w) A (compareOp .NotEq (.str x t) (.str x u)) Q E s := PyProof.Rows.ne_str (by rw [bne_self_eq_false]; exact h)
theorem neT_ {x y : Str} {t u : Tok} {Q : Value → Shared → Prop} (hx : x ≠ y) (h : Q (.bool true) s) : wpAny (model prog w) A (compareOp .NotEq (.str x t) (.str y u)) Q E s := PyProof.Rows.ne_str (by rw [bne_iff_ne.mpr hx]; exact h)
theorem negI_ {a : Int} {t : Tok} {Q : Value → Shared → Prop} (F : Fm K env se S R₀ R l led s) (h : ∀ t s', Fm K env se S R₀ R l led s' → Q (.int (-a) t) s') : wpAny (model prog w) A (unaryOp .USub (.int a t)) Q E s := PyProof.Rows.neg_int (h _ _ F.toks)
/-- x.name of a made object -/
theorem attr_ {x C dx : Addr} {es : List DictEntry} {n : Nat} {name : Str} {v : Value} {expr : Bool} {Q : Value → Shared → Prop} (F : Fm K env se S R₀ R l led s) (hx : R x = some (instObj C dx)) (hd : s.heap.get? dx = some (dictOf es n))
    (G : GetsK K C name) (hl : getL name es = some (some v)) (hv : handedIn v = true) (h : ∀ s', Fm K env se S R₀ R l led s' → Q v s') : wpAny (model prog w) A (getAttr (.ref x) name expr) Q E s :=
  get_value F.out.ok.K (F.inst hx hd) (plainGet_of G.g).1 (findObj_own G.d G.a rfl hl) hv (h _ F.toks)
theorem meth_ {x C dx f : Addr} {es : List DictEntry} {n : Nat} {name : Str} {pl : Sem Bool} {Q : Value × List Value → Shared → Prop} (F : Fm K env se S R₀ R l led s) (hx : R x = some (instObj C dx)) (hd : s.heap.get? dx = some (dictOf es n))
    (G : MethsK K C name f) (hl : getL name es = some none) (h : Q (.ref f, [.ref x]) s) : wpAny (model prog w) A (getMethod (.ref x) name pl) Q E s :=
  method_fn F.out.ok.K (F.inst hx hd) (plainGet_of G.g).1 (plainGet_of G.g).2 G.i G.t (by show (getL name es).map _ = _; rw [hl]; rfl) h

theorem Fm.updLib {a : Addr} {o o' : Obj} {h' : Heap} {t' : Tok} {m : Str → Option Value} (F : Fm K env se S R₀ R l led s) (U : UpdL a o o' led led') (hm : ∀ p ∈ l, m p.1 = p.2) (hn : h'.Ns env.locals m)
    (k : ∀ b x, b ≠ env.locals → b ≠ a → s.heap.get? b = some x → h'.get? b = some x) (ho : h'.get? a = some o') : Fm K env se S R₀ R l led' { s with heap := h', toks := t' } := by
  have mm := U.mem
  have hR := F.lgr.no _ mm
  obtain ⟨⟨⟨st, sb⟩, a1, a2, a3, a4, a5, a6⟩, ⟨b1, b2, b3⟩, c1, ⟨m', c2, c2'⟩, c3, c4, c5, c6, c7, c8⟩ := F
  refine ⟨⟨⟨st, fun b x e => k b x (fun q => by rw [q, c5] at e; cases e) (fun q => by rw [q, hR] at e; cases e) (sb b x e)⟩, a1, a2, a3, fun b x h1 e => k b x (fun q => by rw [q, c4] at e; cases e) (fun q => ?_) (a4 b x h1 e), fun b x e => ?_, a6⟩, ⟨U.keys ▸ b1, fun p hp => ?_, fun p hp => ?_⟩, fun p hp => ?_, ⟨m, hn, hm⟩, c3, c4, c5, U.keys ▸ c6, c7, c8⟩
  · rcases c1 _ mm with z | z
    · exact h1 (q ▸ z)
    · rw [q, z] at e; cases e
  · by_cases q : b = a
    · exact ⟨o', q ▸ ho⟩
    · obtain ⟨x', hx⟩ := a5 b x e
      exact ⟨x', k b x' (fun q => by rw [q, c4] at e; cases e) q hx⟩
  · rcases U.split b1 p hp with rfl | ⟨q, hp⟩
    · exact ho
    · exact k _ _ (fun q => c6 (q ▸ List.mem_map_of_mem hp)) q (b2 p hp)
  · rcases U.split b1 p hp with rfl | ⟨q, hp⟩
    · exact hR
    · exact b3 p hp
  · rcases U.split b1 p hp with rfl | ⟨q, hp⟩
    · exact c1 (a, o) mm
    · exact c1 p hp
theorem putName_ok {name : Str} {hsh : Int} {key v : Value} {es : List DictEntry} {n : Nat} : Obj.putName name hsh key v (dictOf es n) = dictOf (putL name hsh key v es) (putN name es n) := putName_dict _ _ _ _ _ _

/-- x.name = v -/
theorem setA_ {x C dx : Addr} {es : List DictEntry} {n : Nat} {name : Str} {v : Value} {led' : Obj → Ledger} {Q : Unit → Shared → Prop} (F : Fm K env se S R₀ R l led s) (hx : R x = some (instObj C dx)) (U : ∀ o', UpdL dx (dictOf es n) o' led (led' o'))
    (G : SetsK K C name) (hl : (getL name es).isSome = true) (hz : (putL name (PyData.keyHash w.params name) (.str name (s.toks + 1)) v es).length ≤ 1000)
    (h : ∀ k t n' s', Fm K env se S R₀ R l (led' (dictOf (putL name k (.str name t) v es) n')) s' → Q () s') : wpAny (model prog w) A (setAttr (.ref x) name v) Q E s := by
  obtain ⟨m, hm, hm'⟩ := F.ns
  have mm := (U (dictOf es n)).mem
  have hd := F.lgr.here _ mm
  have hL : dx ≠ env.locals := fun q => F.LL (q ▸ List.mem_map_of_mem mm)
  have N : News {} env.locals s.heap ([] ++ (dx, dictOf es n) :: allBut s.heap [env.locals, dx]) := fun p hp => by
    rcases List.mem_cons.mp hp with rfl | hp
    · exact ⟨hd, hL, empty_get⟩
    · exact libNews s.heap env.locals [env.locals, dx] (.head _) p hp
  refine set_plain F.out.ok.K (F.inst hx hd) G.s ?_
  refine osa_dict (s := { s with toks := s.toks + 1 }) (libFr hm) N F.out.ok.K (F.inst hx hd) rfl G.p G.t G.d hl (fun _ h => nomatch h) (fun p hp q => (allBut_of hp).1 (by rw [q]; simp)) putName_ok rfl hz fun h' F1 N1 => ?_
  refine h _ _ _ _ (F.updLib (U _) hm' F1.ns (fun b y hb1 hb2 e => ?_) (N1 _ (.head _)).1)
  exact (N1 _ (.tail _ (allBut_mem (by simp [hb1, hb2]) e))).1

/-- a call of a function that is no def of the text -/
theorem callR_ {pos : Pos} {f : Addr} {e : Expr} {rest : List Expr} {Q : Value → Shared → Prop} (hr : FnR R f)
    (h : wpAny (model prog w) A (spliced (backTo pos (starEach (e :: rest) env))) (fun vs s₁ => (∃ o fd, s₁.heap.get? f = some o ∧ o.data = .func fd) ∧ wpAny (model prog w) A (call (.ref f) vs) Q E s₁) E s)
    (he : starEach (e :: rest) env = (false, eval e env) :: starEach rest env := by rfl) (hplain : (backTo pos (starEach rest env)).any (·.1) = false := by rfl) :
    wpAny (model prog w) A (callWith pos (.ref f) [] (backTo pos (starEach (e :: rest) env)) []) Q E s := by
  rw [he] at h ⊢
  refine callWith_of (P := fun h => ∃ o fd, h.get? f = some o ∧ o.data = .func fd) (by show ((false || (backTo pos (starEach rest env)).any (·.1)) || false) = false; rw [hplain]; rfl) (fun h ⟨o, fd, e1, e2⟩ => ?_) (evalArgs_plain h)
  refine ⟨.frame, .inl rfl, (Looks.ld (part := none) e1).andThen ?_⟩
  obtain ⟨oc, od, dd, sl⟩ := o
  cases e2
  exact .now
theorem inR_ {P : Prop} {f : Addr} (F : Fm K env se S R₀ R l led s) (hr : FnR R f) (h : P) : (∃ o fd, s.heap.get? f = some o ∧ o.data = .func fd) ∧ P :=
  let ⟨o, fd, e1, e2⟩ := hr; ⟨⟨o, fd, F.out.ok.sub _ _ e1, e2⟩, h⟩

/-- isinstance of what is not of an own class -/
theorem isnS_ {C : Addr} {x : Str} {t : Tok} {Q : Value → Shared → Prop} (F : Fm K env se S R₀ R l led s) (e : isNotIn K "str" C = true) (h : ∀ s', Fm K env se S R₀ R l led s' → Q (.bool false) s') :
    wpAny (model prog w) A (call (.builtin "isinstance") [.str x t, .ref C]) Q E s :=
  isn_call (P := fun _ => True) F.out.ok.K (fun M => Looks.of_pure rfl) e (by intro e; cases e) trivial str_cls (h _ F.toks)
theorem isnI_ {C : Addr} {x : Int} {t : Tok} {Q : Value → Shared → Prop} (F : Fm K env se S R₀ R l led s) (e : isNotIn K "int" C = true) (h : ∀ s', Fm K env se S R₀ R l led s' → Q (.bool false) s') :
    wpAny (model prog w) A (call (.builtin "isinstance") [.int x t, .ref C]) Q E s :=
  isn_call (P := fun _ => True) F.out.ok.K (fun M => Looks.of_pure rfl) e (by intro e; cases e) trivial int_cls (h _ F.toks)
theorem sliceFrom_ {value slice : Expr} {a : Addr} {vs : List Value} {k : Int} {t : Tok} {Q : Value → Shared → Prop} (F : Fm K env se S R₀ R l led s) (hl : s.heap.IsList a vs.toArray) (hk : 0 ≤ k) (hz : vs.length ≤ 100000)
    (h : ∀ c s', Fm K env se S R₀ R l ((c, listOf (vs.drop k.toNat).toArray 0) :: led) s' → se.heap.get? c = none → Q (.ref c) s')
    (h1 : subscripted slice false (.ref a) (.ref s.heap.objs.size) = operate [.ref s.heap.objs.size, .ref a] (getItem (.ref a) (.ref s.heap.objs.size)) := by with_unfolding_all rfl) :
    wpAny (model prog w) A (subscriptTail value slice (.ref a) (.ref s.heap.objs.size)) Q E { s with heap := s.heap.push (slObj (.int k t) .none) } :=
  sliceL_ F hl (.int k t) .none (by simpa using hz) (fun c s' F' hn => h c s' (by
    have e := pick_from (vs := vs) k.toNat
    rw [Int.toNat_of_nonneg hk] at e
    rw [← e]; exact F') hn) h1
theorem sliceTo_ {value slice : Expr} {a : Addr} {vs : List Value} {k : Int} {t : Tok} {Q : Value → Shared → Prop} (F : Fm K env se S R₀ R l led s) (hl : s.heap.IsList a vs.toArray) (hk : 0 ≤ k) (hz : vs.length ≤ 100000)
    (h : ∀ c s', Fm K env se S R₀ R l ((c, listOf (vs.take k.toNat).toArray 0) :: led) s' → se.heap.get? c = none → Q (.ref c) s')
    (h1 : subscripted slice false (.ref a) (.ref s.heap.objs.size) = operate [.ref s.heap.objs.size, .ref a] (getItem (.ref a) (.ref s.heap.objs.size)) := by with_unfolding_all rfl) :
    wpAny (model prog w) A (subscriptTail value slice (.ref a) (.ref s.heap.objs.size)) Q E { s with heap := s.heap.push (slObj .none (.int k t)) } :=
  sliceL_ F hl .none (.int k t) (by simpa using hz) (fun c s' F' hn => h c s' (by
    have e := pick_to (vs := vs) k.toNat
    rw [Int.toNat_of_nonneg hk] at e
    rw [← e]; exact F') hn) h1
theorem sliceAll_ {value slice : Expr} {a : Addr} {vs : List Value} {Q : Value → Shared → Prop} (F : Fm K env se S R₀ R l led s) (hl : s.heap.IsList a vs.toArray) (hz : vs.length ≤ 100000)
    (h : ∀ c s', Fm K env se S R₀ R l ((c, listOf vs.toArray 0) :: led) s' → se.heap.get? c = none → Q (.ref c) s')
    (h1 : subscripted slice false (.ref a) (.ref s.heap.objs.size) = operate [.ref s.heap.objs.size, .ref a] (getItem (.ref a) (.ref s.heap.objs.size)) := by with_unfolding_all rfl) :
    wpAny (model prog w) A (subscriptTail value slice (.ref a) (.ref s.heap.objs.size)) Q E { s with heap := s.heap.push (slObj .none .none) } :=
  sliceL_ F hl .none .none (by simpa using hz) (fun c s' F' hn => h c s' (by rw [← pick_all (vs := vs)]; exact F') hn) h1
end

-- LMk
theorem tc_weight (C : Addr) (rest : List Value) : (Code.builtin "type.__call__" ⟨.ref C :: rest, []⟩).weight = 1 := by with_unfolding_all rfl
theorem tc_units (C : Addr) (rest : List Value) : (Code.builtin "type.__call__" ⟨.ref C :: rest, []⟩).cUnits = 1 := by with_unfolding_all rfl
theorem Rm.tc {n : Nat} {A : Around} {C : Addr} {rest : List Value} (h : Rm (n + 1) A) : Rm n (A.under (.builtin "type.__call__" ⟨.ref C :: rest, []⟩)) :=
  ⟨h.hd, by have := h.dp; show A.depth + _ + n ≤ 900; rw [tc_weight]; omega, by have := h.un; show A.units + _ + 16 * n + 200 ≤ 9900; rw [tc_units]; omega⟩
section
variable {prog : Program} {w : World} {K : Frag} {env : Env} {se s s' : Shared} {S S₀ : List Addr} {R₀ R R' : Imm} {l l' : List (Str × Option Value)} {led led' l1 l1' l2 : Ledger} {A : Around} {E : Value → Shared → Prop}
theorem Led.perm (h : Led R led s) (hp : led'.Perm led) : Led R led' s := ⟨(hp.map _).nodup_iff.mpr h.nd, fun p q => h.here p (hp.mem_iff.mp q), fun p q => h.no p (hp.mem_iff.mp q)⟩
theorem Led.front (h : Led R (l1 ++ l2) s) : Led R l1 s := by
  obtain ⟨a, b, c⟩ := h
  rw [List.map_append] at a
  exact ⟨(List.nodup_append.mp a).1, fun p hp => b p (List.mem_append_left _ hp), fun p hp => c p (List.mem_append_left _ hp)⟩
theorem Post.perm {S' : List Addr} (P : Post K s S R R' led s') (h1 : ∀ a, a ∈ S → a ∈ S') (hp : led'.Perm led) : Post K s S' R R' led' s' :=
  ⟨⟨P.out.ok, P.out.gens, P.out.drawn, P.out.os, fun a o hn e => P.out.keep a o (fun q => hn (h1 a q)) e, P.out.live, P.out.old⟩, P.lgr.perm hp, fun p q => (P.loc p (hp.mem_iff.mp q)).imp (h1 _) id⟩
theorem Post.widen (hl : Led R (l1 ++ l2) s) (P : Post K s (l1.map (·.1)) R R' l1' s') : Post K s ((l1 ++ l2).map (·.1)) R R' (l1' ++ l2) s' := by
  obtain ⟨b1, b2, b3⟩ := hl
  obtain ⟨⟨ok', p1, p2, p3, p4, p5, p6⟩, ⟨q1, q2, q3⟩, r1⟩ := P
  rw [List.map_append] at b1
  obtain ⟨n1, n2, n3⟩ := List.nodup_append.mp b1
  refine ⟨⟨ok', p1, p2, p3, fun b o h1 e => p4 b o (fun q => h1 (by rw [List.map_append]; exact List.mem_append_left _ q)) e, p5, p6⟩, ⟨?_, fun p hp => ?_, fun p hp => ?_⟩, fun p hp => ?_⟩
  · rw [List.map_append, List.nodup_append]
    refine ⟨q1, n2, fun x hx y hy e => ?_⟩
    subst e
    obtain ⟨p, hp, rfl⟩ := List.mem_map.mp hx
    rcases r1 p hp with z | z
    · exact n3 _ z _ hy rfl
    · obtain ⟨p', hp', e'⟩ := List.mem_map.mp hy
      have := b2 p' (List.mem_append_right _ hp')
      rw [e', z] at this; cases this
  · rcases List.mem_append.mp hp with hp | hp
    · exact q2 p hp
    · exact p4 _ _ (fun q => n3 _ q _ (List.mem_map_of_mem hp) rfl) (b2 p (List.mem_append_right _ hp))
  · rcases List.mem_append.mp hp with hp | hp
    · exact q3 p hp
    · exact (p6 _ _ (b2 p (List.mem_append_right _ hp))).trans (b3 p (List.mem_append_right _ hp))
  · rw [List.map_append]
    rcases List.mem_append.mp hp with hp | hp
    · exact (r1 p hp).imp (fun z => List.mem_append_left _ z) id
    · exact .inl (List.mem_append_right _ (List.mem_map_of_mem hp))
theorem Fm.rot4 {a b c d : Addr × Obj} (F : Fm K env se S R₀ R l (c :: a :: b :: d :: led) s) : Fm K env se S R₀ R l (c :: d :: a :: b :: led) s :=
  F.perm ((((List.Perm.swap a d [b]).trans ((List.Perm.swap b d []).cons a)).append_right led).cons c)
theorem cutX_ {α X : Type} {t : Sem α} {Q : α → Shared → Prop} (c : α) (Rf : X → Imm) (lf : X → List (Str × Option Value)) (ledf : X → Ledger) (P : X → Prop)
    (h1 : wpAny (model prog w) A t (fun b s₂ => b = c ∧ ∃ y, P y ∧ Fm K env se S R₀ (Rf y) (lf y) (ledf y) s₂) E s)
    (h2 : ∀ y s', P y → Fm K env se S R₀ (Rf y) (lf y) (ledf y) s' → Q c s') : wpAny (model prog w) A t Q E s := wpAny_mono h1 (fun a s' q => by obtain ⟨rfl, y, p, F⟩ := q; exact h2 y s' p F) fun _ _ e => e
theorem unpI_ {t : Addr} {items : Array Value} {n : Nat} {Q : List Value → Shared → Prop} (F : Fm K env se S R₀ R l led s) (hh : A.handled = none) (ht : IsTup s.heap t items) (hn : n = items.size) (h : ∀ s', Fm K env se S R₀ R l led s' → Q items.toList s') :
    wpAny (model prog w) A (unpackItems (.ref t) n none) Q E s := by
  subst hn
  exact unpackItems_tuple hh ht fun h' he => h _ (F.extS he)
/-- C(...) -/
theorem make_ {C fI : Addr} {rest : List Value} {Q : Value → Shared → Prop} (F : Fm K env se S R₀ R l led s) (hm : makesIn K C = true) (hi : findIn K (.ref C) "__init__" = some (some (.ref fI))) (hf : typeIn K (.ref fI) = some (.type "function"))
    (h : ∀ x dx s', R x = none → R dx = none → se.heap.get? x = none → se.heap.get? dx = none → Fm K env se S R₀ (R.put x (instObj C dx)) l ((dx, emptyDict) :: led) s' →
      codeAny (model prog w) (A.under (.builtin "type.__call__" ⟨.ref C :: rest, []⟩)) (.call (.ref fI) ⟨.ref x :: rest, []⟩) (InitBack x (fun r s' => match r with | .ok (.ret v) => Q v s' | .ok _ => False | .error e => E e s')) s') :
    wpAny (model prog w) A (call (.ref C) rest) Q E s := by
  obtain ⟨m, hns, hm'⟩ := F.ns
  refine wpAny_call (make_core (makes_of F.out.ok.K hm) (looks_findIn F.out.ok.K hi) (fun self => bind_fn F.out.ok.K self hf) (.inl rfl) ?_)
  have F1 := F.push (o := emptyDict) rfl
  have F2 := F1.push (o := instObj C s.heap.objs.size) rfl
  rw [show ({ s with heap := s.heap.push emptyDict } : Shared).heap.objs.size = s.heap.objs.size + 1 from Heap.size_push ..] at F2
  have q1 := F2.lgr.no _ (.head _)
  have q2 := F2.lgr.no _ (.tail _ (.head _))
  have e1 : se.heap.get? (s.heap.objs.size + 1) = none := by
    have := F1.size_se
    rwa [show ({ s with heap := s.heap.push emptyDict } : Shared).heap.objs.size = s.heap.objs.size + 1 from Heap.size_push ..] at this
  have F3 := F2.freeze e1
  exact h _ _ _ q1 q2 e1 F.size_se F3
end
local macro_rules | `(tactic| fin_run) => `(tactic| first | exact At.head | exact (At.tail At.head) | exact (At.t2 At.head) | exact (At.t2 (At.tail At.head)) | exact (At.t4 At.head) | exact (At.t4 (At.tail At.head)) | exact (At.t4 (At.t2 At.head)) | exact (At.t4 (At.t2 (At.tail At.head))) | exact (At.t8 At.head) | exact (At.t8 (At.tail At.head)) | exact (At.t8 (At.t2 At.head)))
local macro_rules | `(tactic| cell_call) => `(tactic| first | exact AtG.head | exact (AtG.tail AtG.head) | exact (AtG.t2 AtG.head) | exact (AtG.t2 (AtG.tail AtG.head)) | exact (AtG.t4 AtG.head) | exact (AtG.t4 (AtG.tail AtG.head)))
local macro_rules | `(tactic| kqd_sub) => `(tactic| first | exact Put.head | (refine' Put.tail ?put; (case put => kqd_sub)))
local macro_rules | `(tactic| k_updF) => `(tactic| first | exact UpdL.head | (refine' UpdL.tail ?updl; (case updl => k_updF)))
local macro_rules | `(tactic| k_upd) => `(tactic| first | exact InL.head | (refine' InL.tail ?inl; (case inl => k_upd)))
local macro_rules | `(tactic| k_inst) => `(tactic| first
  | ((rename Fm .. => F0); (refine' ld_ F0 ?m ?_); (case m => fin_run))
  | refine wpAny_BinOp ?_
  | (refine' wpAny_Compare1 ?_ ?w0; (case w0 => with_unfolding_all rfl))
  | ((rename Fm .. => F0); (refine' cs_ F0 ?_); clear F0; intro t1 s1 F1)
  | ((rename Fm .. => F0); (refine' ci_ F0 ?_); clear F0; intro t1 s1 F1)
  | refine Constant_bool ?_
  | refine Constant_none ?_
  | ((rename Fm .. => F0); (refine' lg_ F0 ?g ?m ?_); (case g => with_reducible assumption); (case m => cell_call))
  | refine Subscript_ ?_
  | (refine' Attribute_any_ ?_ ?w0; (case w0 => with_unfolding_all rfl))
  | (refine' MethodCall_ ?_ ?w0; (case w0 => with_unfolding_all rfl))
  | (refine' Call_ ?_ ?w0; (case w0 => with_unfolding_all rfl))
  | refine Tuple_ ?_
  | refine List_ ?_
  | refine IfExp_ ?_
  | refine UnaryOp_ ?_)
local macro_rules | `(tactic| k_meth) => `(tactic| first
  | (refine' callB1_ ?_ ?w0 ?w1; (case w0 => with_unfolding_all rfl); (case w1 => with_unfolding_all rfl))
  | (refine' callBm_ ?_ ?w0 ?w1; (case w0 => with_unfolding_all rfl); (case w1 => with_unfolding_all rfl))
  | refine callB0_ ?_
  | (refine' callT1_ ?_ ?w0 ?w1; (case w0 => with_unfolding_all rfl); (case w1 => with_unfolding_all rfl))
  | ((rename Fm .. => F0); (refine' callK1_ F0 ?k ?_ ?b ?c); (case k => k_is); (case b => with_unfolding_all rfl); (case c => with_unfolding_all rfl))
  | ((rename Fm .. => F0); (refine' callKm_ F0 ?k ?_ ?b ?c); (case k => k_is); (case b => with_unfolding_all rfl); (case c => with_unfolding_all rfl))
  | ((rename Fm .. => F0); (refine' callK0_ F0 ?k ?_); (case k => k_is)))
local macro_rules | `(tactic| k_typeOf) => `(tactic| first
  | (refine' wpAny_isTrue_Compare1 ?_ ?w0; (case w0 => with_unfolding_all rfl))
  | refine isTrue_not ?_
  | refine wpAny_isTrue_BoolOp ?_
  | (refine' isTrue_plain ?_ ?w0; (case w0 => with_unfolding_all rfl)))
local macro_rules | `(tactic| k_flat) => `(tactic| first
  | (refine' wpAny_Assign_Name ?_ ?w0; (case w0 => with_unfolding_all rfl))
  | refine wpAny_If ?_
  | refine wpAny_AugAssign_Name ?_
  | (refine' plainObj_wpAny_Assign_Attribute ?_ ?w0; (case w0 => with_unfolding_all rfl))
  | refine wpAny_Return_some ?_)
local macro_rules | `(tactic| k_tabat) => `(tactic| first
  | ((rename Fm .. => F0); (refine' st_ F0 ?m ?_); (case m => kqd_sub); clear F0; intro s1 F1)
  | refine wpAny_truthy_bool ?_
  | ((rename Fm .. => F0); (refine' ldn_ F0 ?m ?_); (case m => fin_run))
  | ((rename Fm .. => F0); (refine' gmApp_ F0 ?m ?_); (case m => k_upd))
  | ((rename Fm .. => F0); (refine' gmPop_ F0 ?m ?_); (case m => k_upd))
  | refine gmJoin_ ?_
  | refine gmLower_ ?_
  | refine strS_ ?_
  | refine wpAny_allTrue_And_cons ?_
  | refine wpAny_allTrue_And_nil ?_
  | refine wpAny_allTrue_Or_cons ?_
  | refine wpAny_allTrue_Or_nil ?_
  | refine eqT_ ?_
  | refine eqF_ (by decide) ?_
  | refine eq_str ?_
  | refine eq_int ?_
  | refine lt_int ?_
  | refine gt_int ?_
  | ((rename Fm .. => F0); (refine' addI_ F0 ?_); clear F0; intro t1 s1 F1)
  | ((rename Fm .. => F0); (refine' subI_ F0 ?_); clear F0; intro t1 s1 F1)
  | ((rename Fm .. => F0); (refine' iaddI_ F0 ?_); clear F0; intro t1 s1 F1))
local macro_rules | `(tactic| kqd_ok) => `(tactic| first
  | refine thenK_next ?_
  | refine thenK_ret ?_
  | refine turnK_ret ?_
  | refine retK_ret ?_
  | refine retK_next ?_
  | refine loop_next ?_
  | refine loop_ret ?_
  | refine if_t ?_
  | refine if_f ?_
  | k_unfold
  | ((rename Fm .. => F0); refine inK_ F0 ?_))
local macro_rules | `(tactic| k_all) => `(tactic| with_reducible first
  | ((show wpAny _ _ (eval _ _) _ _ _); k_inst)
  | ((show wpAny _ _ (spliced _) _ _ _); first | (refine' spliced_more ?_ ?w0; (case w0 => with_unfolding_all rfl)) | refine spliced_none ?_)
  | ((show wpAny _ _ (callWith _ _ _ _ _) _ _ _); k_meth)
  | ((show wpAny _ _ (isTrue _ _ _) _ _ _); k_typeOf)
  | ((show wpAny _ _ (execs _ _) _ _ _); first | (refine seq_ ?_; k_fold) | refine nil_ ?_)
  | ((show wpAny _ _ (exec _ _) _ _ _); k_flat)
  | ((show wpAny _ _ _ _ _ _); k_tabat)
  | kqd_ok)
example : PySem.Challenge.rw_nz0407_01.prog = PySem.Challenge.rw_nz0407_01.prog ∧ hd.heap_1 = hd.heap_1 := by
  k_fill
  exact ⟨rfl, rfl⟩

-- LGl
theorem gl_len (w : World) : Gl (hd.heap_1 w.params) "len" (.builtin "len") := .inr ⟨by k_is, by boot_fast, by decide⟩
theorem gl_abs (w : World) : Gl (hd.heap_1 w.params) "abs" (.builtin "abs") := .inr ⟨by k_is, by boot_fast, by decide⟩
theorem gl_isi (w : World) : Gl (hd.heap_1 w.params) "isinstance" (.builtin "isinstance") := .inr ⟨by k_is, by boot_fast, by decide⟩
theorem gl_list (w : World) : Gl (hd.heap_1 w.params) "list" (.type "list") := .inr ⟨by k_is, by boot_fast, by decide⟩
theorem gl_str (w : World) : Gl (hd.heap_1 w.params) "str" (.type "str") := .inr ⟨by k_is, by boot_fast, by decide⟩
theorem gl_range (w : World) : Gl (hd.heap_1 w.params) "range" (.type "range") := .inr ⟨by k_is, by boot_fast, by decide⟩
theorem gl_Failure (w : World) : Gl (hd.heap_1 w.params) "Failure" (.ref 31) := .inl (by k_is)
theorem gl_is_fail (w : World) : Gl (hd.heap_1 w.params) "is_fail" (.ref 42) := .inl (by k_is)
theorem gl_Work (w : World) : Gl (hd.heap_1 w.params) "Work" (.ref 80) := .inl (by k_is)
theorem gl_GivenHooks (w : World) : Gl (hd.heap_1 w.params) "GivenHooks" (.ref 227) := .inl (by k_is)
theorem gl_run_row (w : World) : Gl (hd.heap_1 w.params) "run_row" (.ref 238) := .inl (by k_is)
theorem gl_do_order (w : World) : Gl (hd.heap_1 w.params) "do_order" (.ref 245) := .inl (by k_is)
theorem gl_do_part (w : World) : Gl (hd.heap_1 w.params) "do_part" (.ref 252) := .inl (by k_is)
theorem gl_do_deed (w : World) : Gl (hd.heap_1 w.params) "do_deed" (.ref 259) := .inl (by k_is)
theorem gl_do_other (w : World) : Gl (hd.heap_1 w.params) "do_other" (.ref 266) := .inl (by k_is)
theorem gl_next (w : World) : Gl (hd.heap_1 w.params) "_law_next" (.ref 273) := .inl (by k_is)
theorem gl_leaf (w : World) : Gl (hd.heap_1 w.params) "_law_leaf" (.ref 280) := .inl (by k_is)
theorem gl_deed (w : World) : Gl (hd.heap_1 w.params) "_law_deed" (.ref 287) := .inl (by k_is)
theorem gl_block (w : World) : Gl (hd.heap_1 w.params) "_law_block" (.ref 294) := .inl (by k_is)
theorem gl_flat (w : World) : Gl (hd.heap_1 w.params) "_law_flat" (.ref 301) := .inl (by k_is)
theorem gl_said (w : World) : Gl (hd.heap_1 w.params) "_law_said" (.ref 308) := .inl (by k_is)
theorem gl_goes (w : World) : Gl (hd.heap_1 w.params) "_law_goes" (.ref 315) := .inl (by k_is)
theorem gl_same (w : World) : Gl (hd.heap_1 w.params) "_law_same" (.ref 322) := .inl (by k_is)
theorem gl_deeds (w : World) : Gl (hd.heap_1 w.params) "_law_deeds_same" (.ref 329) := .inl (by k_is)

-- LN
structure FeedC (R : Imm) (c : Addr) (cells : Array Value) (nc : Nat) : Prop where
  isAt : R c = some (listOf cells nc)
  isInt : ∀ i, i < cells.size → ∃ k u, cells[i]? = some (.int k u)
  isPos : 0 < cells.size
  isLe : cells.size ≤ 100
theorem FeedC.mono {R R' : Imm} {c : Addr} {cells : Array Value} {nc : Nat} (k : Le R R') (h : FeedC R c cells nc) : FeedC R' c cells nc := ⟨k _ _ h.isAt, h.isInt, h.isPos, h.isLe⟩
section
variable {prog : Program} {w : World} {s : Shared} {R : Imm} {A : Around} {E : Value → Shared → Prop}

theorem next_ {fa c : Addr} {p : Int} {tp t : Tok} {of : Obj} {cells : Array Value} {nc : Nat} {n : Int} {Q : Value → Shared → Prop}
    (hA : Rm 2 A) (O : Ok (hd.heap_1 w.params) R s) (hl : Led R [(fa, of)] s) (hf : IsL of #[.ref c, .int p tp]) (hc : R c = some (listOf cells nc))
    (hcs : ∀ i, i < cells.size → ∃ k u, cells[i]? = some (.int k u)) (h0 : 0 < cells.size) (h1 : cells.size ≤ 100) (hp : 0 ≤ p) (hp2 : p < 100000) (hn : 0 < n)
    (h : ∀ r t' of' tp' s', 0 ≤ r → r < n → IsL of' #[.ref c, .int (p + 1) tp'] → Post (hd.heap_1 w.params) s [fa] R R [(fa, of')] s' → Q (.int r t') s') :
    wpAny (model prog w) A (call (.ref 273) [.ref fa, .int n t]) Q E s := by
  refine' enter_ (n := 1) ["feed", "many"] ["cells", "place"] [("len", .builtin "len")] hA O hl ?ho ?hcd ?hc ?hg ?hlen ?hbind ?_
  case ho => k_is
  case hcd => k_is
  case hc => decide +kernel
  case hg => exact List.forall_mem_cons.mpr ⟨gl_len w, fun _ h => nomatch h⟩
  case hlen => rfl
  case hbind => exact BindsTo.of_eq rfl
  intro env s' q1 q2 F G hA'
  simp only [l0, List.zip, List.zipWith, List.map, List.nil_append, List.cons_append] at F
  have hh := hA'.hd
  repeat k_all
  refine Assign_Tuple ?_ (by rfl) (by rfl)
  repeat k_all
  rename Fm _ _ _ _ _ _ _ _ _ => F
  refine unpackL2_ F hh (F.listO (.head _) hf) ?_
  clear F; intro s1 F
  repeat k_all
  refine wpAny_Assign_Subscript ?_ (by rfl)
  repeat k_all
  rename Fm _ _ _ _ _ _ _ _ _ => F
  refine setL_ (led' := fun o' => [(fa, o')]) F (fun o' => .head) hf (by decide) (by show (1:Int) < 2; decide) (by show 2 ≤ 1000; decide) ?_
  clear F; intro of' s2 hf' F
  repeat k_all
  rename Fm _ _ _ _ _ _ _ _ _ => F
  refine lenL_ F (F.listR hc) (by omega) ?_
  clear F; intro t2 s3 F
  repeat k_all
  rename Fm _ _ _ _ _ _ _ _ _ => F
  refine modI_ F (by omega) ?_
  clear F; intro t3 s4 F
  repeat k_all
  have e0 : 0 ≤ p.fmod cells.size := by rw [Int.fmod_eq_emod_of_nonneg _ (by omega)]; exact Int.emod_nonneg _ (by omega)
  have e1 : p.fmod cells.size < cells.size := Int.fmod_lt_of_pos _ (by omega)
  obtain ⟨k, u, hk⟩ := hcs (p.fmod cells.size).toNat (by omega)
  rename Fm _ _ _ _ _ _ _ _ _ => F
  refine itemL_ (F.listR hc) e0 (by omega) hk ?_
  repeat k_all
  rename Fm _ _ _ _ _ _ _ _ _ => F
  refine lenL_ F (F.listR hc) (by omega) ?_
  clear F; intro t4 s5 F
  repeat k_all
  rename Fm _ _ _ _ _ _ _ _ _ => F
  refine divI_ F (by omega) (by omega) ?_
  clear F; intro t5 s6 F
  have e2 : 0 ≤ p.fdiv cells.size := Int.fdiv_nonneg (by omega) (by omega)
  have e3 : p.fdiv cells.size ≤ p := by
    rw [Int.fdiv_eq_ediv_of_nonneg _ (by omega)]; exact Int.ediv_le_self _ hp
  repeat k_all
  rename Fm _ _ _ _ _ _ _ _ _ => F
  refine divI_ F (by omega) (by omega) ?_
  clear F; intro t6 s7 F
  repeat k_all
  rename Fm _ _ _ _ _ _ _ _ _ => F
  refine mulI_ F (by decide) ?_
  clear F; intro t7 s8 F
  repeat k_all
  rename Fm _ _ _ _ _ _ _ _ _ => F
  refine modI_ F hn ?_
  clear F; intro t8 s9 F
  repeat k_all
  rename Fm _ _ _ _ _ _ _ _ _ => F
  exact h _ _ _ _ _ (by rw [Int.fmod_eq_emod_of_nonneg _ (by omega)]; exact Int.emod_nonneg _ (by omega)) (Int.fmod_lt_of_pos _ hn) hf' F.post
theorem nextC_ {fa c : Addr} {p : Nat} {tp t : Tok} {of : Obj} {cells : Array Value} {nc : Nat} {n : Nat} {Q : Value → Shared → Prop}
    (hA : Rm 2 A) (O : Ok (hd.heap_1 w.params) R s) (hl : Led R [(fa, of)] s) (hf : IsL of #[.ref c, .int p tp]) (hc : FeedC R c cells nc) (hp2 : p < 100000) (hn : 0 < n)
    (h : ∀ (r : Nat) t' of' tp' s', r < n → IsL of' #[.ref c, .int ((p + 1 : Nat) : Int) tp'] → Post (hd.heap_1 w.params) s [fa] R R [(fa, of')] s' → Q (.int r t') s') :
    wpAny (model prog w) A (call (.ref 273) [.ref fa, .int n t]) Q E s := by
  refine next_ hA O hl hf hc.isAt hc.isInt hc.isPos hc.isLe (by omega) (by omega) (by omega) ?_
  intro r t' of' tp' s' h0 h1 hf' P
  obtain ⟨r, rfl⟩ := Int.eq_ofNat_of_zero_le h0
  exact h r t' of' tp' s' (by omega) hf' P
end

-- LW
theorem wG_stack (w : World) : GetsK (hd.heap_1 w.params) 80 "stack" := ⟨by k_is, by k_is, by k_is⟩
theorem wG_guards (w : World) : GetsK (hd.heap_1 w.params) 80 "guards" := ⟨by k_is, by k_is, by k_is⟩
theorem wG_found (w : World) : GetsK (hd.heap_1 w.params) 80 "found" := ⟨by k_is, by k_is, by k_is⟩
theorem wS_stack (w : World) : SetsK (hd.heap_1 w.params) 80 "stack" := ⟨by k_is, by k_is, by k_is, by k_is⟩
theorem wS_guards (w : World) : SetsK (hd.heap_1 w.params) 80 "guards" := ⟨by k_is, by k_is, by k_is, by k_is⟩
theorem wS_found (w : World) : SetsK (hd.heap_1 w.params) 80 "found" := ⟨by k_is, by k_is, by k_is, by k_is⟩
theorem wS_goal (w : World) : SetsK (hd.heap_1 w.params) 80 "goal" := ⟨by k_is, by k_is, by k_is, by k_is⟩
theorem wM_push (w : World) : MethsK (hd.heap_1 w.params) 80 "push" 63 := ⟨by k_is, by k_is, by k_is⟩
theorem wM_pop (w : World) : MethsK (hd.heap_1 w.params) 80 "pop" 70 := ⟨by k_is, by k_is, by k_is⟩
theorem wM_take (w : World) : MethsK (hd.heap_1 w.params) 80 "take" 77 := ⟨by k_is, by k_is, by k_is⟩

noncomputable def wkEs (h1 : Int) (t1 : Tok) (h2 : Int) (t2 : Tok) (h3 : Int) (t3 : Tok) (h4 : Int) (t4 : Tok) (sv gv fo go : Value) : List DictEntry :=
  [⟨h1, .str "stack" t1, sv⟩, ⟨h2, .str "guards" t2, gv⟩, ⟨h3, .str "found" t3, fo⟩, ⟨h4, .str "goal" t4, go⟩]
/-- the dict of a Work -/
noncomputable def WorkD (od : Obj) (sv gv fo go : Value) : Prop := ∃ h1 t1 h2 t2 h3 t3 h4 t4 n, od = dictOf (wkEs h1 t1 h2 t2 h3 t3 h4 t4 sv gv fo go) n

section
variable {prog : Program} {w : World} {s : Shared} {R : Imm} {A : Around} {E : Value → Shared → Prop}

theorem isfail_s {x : Str} {t : Tok} {Q : Value → Shared → Prop} (hA : Rm 2 A) (O : Ok (hd.heap_1 w.params) R s) (h : ∀ s', Post (hd.heap_1 w.params) s [] R R [] s' → Q (.bool false) s') :
    wpAny (model prog w) A (call (.ref 42) [.str x t]) Q E s := by
  refine' enter_ (n := 1) (led := []) ["value"] [] [("isinstance", .builtin "isinstance"), ("Failure", .ref 31)] hA O Led.nil ?ho ?hcd ?hc ?hg ?hlen ?hbind ?_
  case ho => k_is
  case hcd => k_is
  case hc => decide +kernel
  case hg => exact (List.forall_mem_cons.mpr ⟨gl_isi w, (List.forall_mem_cons.mpr ⟨gl_Failure w, (fun _ h => nomatch h)⟩)⟩)
  case hlen => rfl
  case hbind => exact BindsTo.of_eq rfl
  intro env s' q1 q2 F G hA'
  simp only [l0, List.zip, List.zipWith, List.map, List.nil_append, List.cons_append] at F
  have hh := hA'.hd
  repeat k_all
  rename Fm _ _ _ _ _ _ _ _ _ => F; refine isnS_ F (by k_not) ?_; clear F; intro s2 F
  repeat k_all
  rename Fm _ _ _ _ _ _ _ _ _ => F
  exact h _ F.post
theorem isfail_i {x : Int} {t : Tok} {Q : Value → Shared → Prop} (hA : Rm 2 A) (O : Ok (hd.heap_1 w.params) R s) (h : ∀ s', Post (hd.heap_1 w.params) s [] R R [] s' → Q (.bool false) s') :
    wpAny (model prog w) A (call (.ref 42) [.int x t]) Q E s := by
  refine' enter_ (n := 1) (led := []) ["value"] [] [("isinstance", .builtin "isinstance"), ("Failure", .ref 31)] hA O Led.nil ?ho ?hcd ?hc ?hg ?hlen ?hbind ?_
  case ho => k_is
  case hcd => k_is
  case hc => decide +kernel
  case hg => exact (List.forall_mem_cons.mpr ⟨gl_isi w, (List.forall_mem_cons.mpr ⟨gl_Failure w, (fun _ h => nomatch h)⟩)⟩)
  case hlen => rfl
  case hbind => exact BindsTo.of_eq rfl
  intro env s' q1 q2 F G hA'
  simp only [l0, List.zip, List.zipWith, List.map, List.nil_append, List.cons_append] at F
  have hh := hA'.hd
  repeat k_all
  rename Fm _ _ _ _ _ _ _ _ _ => F; refine isnI_ F (by k_not) ?_; clear F; intro s2 F
  repeat k_all
  rename Fm _ _ _ _ _ _ _ _ _ => F
  exact h _ F.post
theorem push_none {x : Addr} {led : Ledger} {Q : Value → Shared → Prop} (hA : Rm 3 A) (O : Ok (hd.heap_1 w.params) R s) (hl : Led R led s) (h : ∀ s', Post (hd.heap_1 w.params) s (led.map (·.1)) R R led s' → Q (.bool false) s') :
    wpAny (model prog w) A (call (.ref 63) [.ref x, .none]) Q E s := by
  refine' enter_ (n := 2) ["self", "value"] [] [("is_fail", .ref 42)] hA O hl ?ho ?hcd ?hc ?hg ?hlen ?hbind ?_
  case ho => k_is
  case hcd => k_is
  case hc => decide +kernel
  case hg => exact (List.forall_mem_cons.mpr ⟨gl_is_fail w, (fun _ h => nomatch h)⟩)
  case hlen => rfl
  case hbind => exact BindsTo.of_eq rfl
  intro env s' q1 q2 F G hA'
  simp only [l0, List.zip, List.zipWith, List.map, List.nil_append, List.cons_append] at F
  have hh := hA'.hd
  repeat k_all
  refine isNone_ rfl ?_
  rw [beq_self_eq_true]
  repeat k_all
  rename Fm _ _ _ _ _ _ _ _ _ => F
  exact h _ F.post

theorem push_s {x dx sa : Addr} {od : Obj} {vs : List Value} {n : Nat} {v : Str} {t : Tok} {gv fo go : Value} {Q : Value → Shared → Prop} (hA : Rm 4 A) (O : Ok (hd.heap_1 w.params) R s) (hl : Led R [(dx, od), (sa, listOf vs.toArray n)] s)
    (hx : R x = some (instObj 80 dx)) (hw : WorkD od (.ref sa) gv fo go) (hz : vs.length ≤ 1000)
    (h : ∀ s' n', Post (hd.heap_1 w.params) s [dx, sa] R R [(dx, od), (sa, listOf (vs ++ [Value.str v t]).toArray n')] s' → Q (.bool true) s') :
    wpAny (model prog w) A (call (.ref 63) [.ref x, .str v t]) Q E s := by
  refine' enter_ (n := 3) ["self", "value"] [] [("is_fail", .ref 42)] hA O hl ?ho ?hcd ?hc ?hg ?hlen ?hbind ?_
  case ho => k_is
  case hcd => k_is
  case hc => decide +kernel
  case hg => exact (List.forall_mem_cons.mpr ⟨gl_is_fail w, (fun _ h => nomatch h)⟩)
  case hlen => rfl
  case hbind => exact BindsTo.of_eq rfl
  intro env s' q1 q2 F G hA'
  simp only [l0, List.zip, List.zipWith, List.map, List.nil_append, List.cons_append] at F
  have hh := hA'.hd
  obtain ⟨h1, u1, h2, u2, h3, u3, h4, u4, nd, rfl⟩ := hw
  repeat k_all
  refine isNone_ rfl ?_
  show wpAny _ _ (truthy (.bool false)) _ _ _
  repeat k_all
  rename Fm _ _ _ _ _ _ _ _ _ => F
  refine isfail_s (hA'.le (by decide)) F.out.ok ?_
  intro s2 P_s2; rename Fm _ _ _ _ _ _ _ _ _ => F; have F9 := F.after0 P_s2; clear F; rename Fm _ _ _ _ _ _ _ _ _ => F; simp only [List.nil_append, List.cons_append] at F
  repeat k_all
  rename Fm _ _ _ _ _ _ _ _ _ => F; refine ex_ F ?_ (by with_unfolding_all rfl)
  repeat k_all
  rename Fm _ _ _ _ _ _ _ _ _ => F; refine attr_ F (by assumption) (F.lgr.here _ (.head _)) (wG_stack w) rfl rfl ?_; clear F; intro s3 F
  repeat k_all
  rename Fm _ _ _ _ _ _ _ _ _ => F; refine appL_ F (.tail .head) (by omega) ?_; clear F; intro s4 F
  repeat k_all
  rename Fm _ _ _ _ _ _ _ _ _ => F
  exact h _ _ F.post
theorem push_r {x dx sa : Addr} {od : Obj} {vs : List Value} {st : List Str} {n : Nat} {v : Value} {r : Option Str} {gv fo go : Value} {Q : Value → Shared → Prop} (hA : Rm 4 A) (O : Ok (hd.heap_1 w.params) R s) (hl : Led R [(dx, od), (sa, listOf vs.toArray n)] s)
    (hx : R x = some (instObj 80 dx)) (hw : WorkD od (.ref sa) gv fo go) (hst : StrsAre vs st) (hz : vs.length ≤ 1000) (hv : AnsV v (.of r))
    (h : ∀ s' vs' n', Post (hd.heap_1 w.params) s [dx, sa] R R [(dx, od), (sa, listOf vs'.toArray n')] s' → StrsAre vs' ((r.map fun y => st ++ [y]).getD st) → Q (.bool (r.map fun y => st ++ [y]).isSome) s') :
    wpAny (model prog w) A (call (.ref 63) [.ref x, v]) Q E s := by
  cases r with
  | none =>
    have e : v = .none := hv
    subst e
    exact push_none (hA.le (by decide)) O hl fun s' P => h s' vs n P hst
  | some y =>
    obtain ⟨t, rfl⟩ := hv
    exact push_s hA O hl hx hw hz fun s' n' P => h s' _ n' P (StrsAre.snoc' hst)

theorem popw_ {x dx sa : Addr} {od : Obj} {vs : List Value} {n : Nat} {y : Value} {gv fo go : Value} {Q : Value → Shared → Prop} (hA : Rm 2 A) (O : Ok (hd.heap_1 w.params) R s) (hl : Led R [(dx, od), (sa, listOf (vs ++ [y]).toArray n)] s)
    (hx : R x = some (instObj 80 dx)) (hw : WorkD od (.ref sa) gv fo go) (hz : vs.length ≤ 1000)
    (h : ∀ s' n', Post (hd.heap_1 w.params) s [dx, sa] R R [(dx, od), (sa, listOf vs.toArray n')] s' → Q y s') :
    wpAny (model prog w) A (call (.ref 70) [.ref x]) Q E s := by
  refine' enter_ (n := 1) ["self"] [] [] hA O hl ?ho ?hcd ?hc ?hg ?hlen ?hbind ?_
  case ho => k_is
  case hcd => k_is
  case hc => decide +kernel
  case hg => exact (fun _ h => nomatch h)
  case hlen => rfl
  case hbind => exact BindsTo.of_eq rfl
  intro env s' q1 q2 F G hA'
  simp only [l0, List.zip, List.zipWith, List.map, List.nil_append, List.cons_append] at F
  have hh := hA'.hd
  obtain ⟨h1, u1, h2, u2, h3, u3, h4, u4, nd, rfl⟩ := hw
  repeat k_all
  rename Fm _ _ _ _ _ _ _ _ _ => F; refine attr_ F (by assumption) (F.lgr.here _ (.head _)) (wG_stack w) rfl rfl ?_; clear F; intro s3 F
  repeat k_all
  rename Fm _ _ _ _ _ _ _ _ _ => F; refine pop_ F (.tail .head) (by omega) ?_; clear F; intro s4 F
  repeat k_all
  rename Fm _ _ _ _ _ _ _ _ _ => F
  exact h _ _ F.post

theorem take_ {x dx sa : Addr} {od : Obj} {vs : List Value} {n : Nat} {many : Nat} {t : Tok} {gv fo go : Value} {Q : Value → Shared → Prop} (hA : Rm 2 A) (O : Ok (hd.heap_1 w.params) R s) (hl : Led R [(dx, od), (sa, listOf vs.toArray n)] s)
    (hx : R x = some (instObj 80 dx)) (hw : WorkD od (.ref sa) gv fo go) (hz : vs.length ≤ 1000) (hm : many ≤ vs.length)
    (h : ∀ s' od' sb fa R', R fa = none → R' = R.put fa (listOf (vs.drop (vs.length - many)).toArray 0) → WorkD od' (.ref sb) gv fo go → s.heap.get? fa = none → s.heap.get? sb = none →
      Post (hd.heap_1 w.params) s [dx, sa] R R' [(dx, od'), (sb, listOf (vs.take (vs.length - many)).toArray 0)] s' → Q (.ref fa) s') :
    wpAny (model prog w) A (call (.ref 77) [.ref x, .int many t]) Q E s := by
  refine' enter_ (n := 1) ["self", "many"] ["first", "found"] [("len", .builtin "len")] hA O hl ?ho ?hcd ?hc ?hg ?hlen ?hbind ?_
  case ho => k_is
  case hcd => k_is
  case hc => decide +kernel
  case hg => exact (List.forall_mem_cons.mpr ⟨gl_len w, (fun _ h => nomatch h)⟩)
  case hlen => rfl
  case hbind => exact BindsTo.of_eq rfl
  intro env s' q1 q2 F G hA'
  simp only [l0, List.zip, List.zipWith, List.map, List.nil_append, List.cons_append] at F
  have hh := hA'.hd
  obtain ⟨h1, u1, h2, u2, h3, u3, h4, u4, nd, rfl⟩ := hw
  repeat k_all
  rename Fm _ _ _ _ _ _ _ _ _ => F; refine attr_ F (by assumption) (F.lgr.here _ (.head _)) (wG_stack w) rfl rfl ?_; clear F; intro s3 F
  repeat k_all
  rename Fm _ _ _ _ _ _ _ _ _ => F; refine lenL_ F (F.listAt (.tail _ (.head _))) (by simp; omega) ?_; clear F; intro t4 s4 F
  repeat k_all
  rename Fm _ _ _ _ _ _ _ _ _ => F; refine attr_ F (by assumption) (F.lgr.here _ (.head _)) (wG_stack w) rfl rfl ?_; clear F; intro s5 F
  repeat k_all
  refine slice_ ?_
  refine wpAny_evalPart_some ?_
  repeat k_all
  refine wpAny_evalPart_none ?_
  have e_k : ((vs.toArray.size : Int) - (many : Int)).toNat = vs.length - many := by rw [List.size_toArray]; omega
  rename Fm _ _ _ _ _ _ _ _ _ => F; refine sliceFrom_ F (F.listAt (.tail _ (.head _))) (by rw [List.size_toArray]; omega) (by omega) ?_; clear F; intro fa s6 F hn_fa
  rw [e_k] at F
  repeat k_all
  rename Fm _ _ _ _ _ _ _ _ _ => F
  have hR_fa := F.lgr.no _ (.head _)
  have F := F.freeze hn_fa
  rename Fm _ _ _ _ _ _ _ _ _ => F; refine attr_ F (Le.put hR_fa _ _ hx) (F.lgr.here _ (.head _)) (wG_stack w) rfl rfl ?_; clear F; intro s7 F
  repeat k_all
  refine slice_ ?_
  refine wpAny_evalPart_none ?_
  refine wpAny_evalPart_some ?_
  repeat k_all
  rename Fm _ _ _ _ _ _ _ _ _ => F; refine sliceTo_ F (F.listAt (.tail _ (.head _))) (by rw [List.size_toArray]; omega) (by omega) ?_; clear F; intro sb s8 F hn_sb
  rw [e_k] at F
  repeat k_all
  rename Fm _ _ _ _ _ _ _ _ _ => F; refine setA_ (led' := fun o' => [(sb, listOf (vs.take (vs.length - many)).toArray 0), (dx, o'), (sa, listOf vs.toArray n)]) F (Le.put hR_fa _ _ hx) (fun o' => .tail .head) (wS_stack w) rfl (Nat.le_of_ble_eq_true rfl) ?_; clear F; intro k9 t9 n9 s9 F
  repeat k_all
  rename Fm _ _ _ _ _ _ _ _ _ => F
  have F := (F.perm (List.Perm.swap _ _ _))
  have F := (F.perm (led' := (sa, listOf vs.toArray n) :: [(dx, _), (sb, listOf (vs.take (vs.length - many)).toArray 0)]) (List.perm_middle (l₁ := [_, _]).symm)).drop
  refine h _ _ _ _ _ hR_fa rfl ?_ hn_fa hn_sb F.post
  exact ⟨h1, u1, h2, u2, h3, u3, h4, u4, _, rfl⟩
theorem pop_r {x dx sa : Addr} {od : Obj} {vs : List Value} {st : List Str} {n : Nat} {gv fo go : Value} {Q : Value → Shared → Prop} (hA : Rm 2 A) (O : Ok (hd.heap_1 w.params) R s) (hl : Led R [(dx, od), (sa, listOf vs.toArray n)] s)
    (hx : R x = some (instObj 80 dx)) (hw : WorkD od (.ref sa) gv fo go) (hst : StrsAre vs st) (hz : st.length ≤ 1000) (h0 : 0 < st.length)
    (h : ∀ s' us n' t, Post (hd.heap_1 w.params) s [dx, sa] R R [(dx, od), (sa, listOf us.toArray n')] s' → StrsAre us (st.take (st.length - 1)) → Q (.str (st.getLastD "") t) s') :
    wpAny (model prog w) A (call (.ref 70) [.ref x]) Q E s := by
  obtain ⟨us, t, rfl, hus⟩ := StrsAre.split1 hst h0
  exact popw_ hA O hl hx hw (by rw [StrsAre.length' hus, List.length_take]; omega) fun s' n' P => h s' us n' t P hus
theorem take_r {x dx sa : Addr} {od : Obj} {vs : List Value} {st : List Str} {n : Nat} {many : Nat} {t : Tok} {gv fo go : Value} {Q : Value → Shared → Prop} (hA : Rm 2 A) (O : Ok (hd.heap_1 w.params) R s) (hl : Led R [(dx, od), (sa, listOf vs.toArray n)] s)
    (hx : R x = some (instObj 80 dx)) (hw : WorkD od (.ref sa) gv fo go) (hst : StrsAre vs st) (hz : st.length ≤ 1000) (hm : many ≤ st.length)
    (h : ∀ s' od' sb fa us ts, R fa = none → WorkD od' (.ref sb) gv fo go → StrsAre us (st.take (st.length - many)) → StrsAre ts (st.drop (st.length - many)) →
      Post (hd.heap_1 w.params) s [dx, sa] R (R.put fa (listOf ts.toArray 0)) [(dx, od'), (sb, listOf us.toArray 0)] s' → Q (.ref fa) s') :
    wpAny (model prog w) A (call (.ref 77) [.ref x, .int many t]) Q E s := by
  have hlen := StrsAre.length' hst
  refine take_ hA O hl hx hw (by omega) (by omega) fun s' od' sb fa R' h1 h2 h3 _ _ P => ?_
  subst h2
  rw [hlen] at P
  exact h s' od' sb fa _ _ h1 h3 (StrsAre.takes hst _) (StrsAre.drops hst _) P
end

-- LS

structure SaT where
  vs : List Value
  n : Nat
  v : Option Value
section
variable {prog : Program} {w : World} {s : Shared} {R : Imm} {A : Around} {E : Value → Shared → Prop}

theorem said_ {th p : Addr} {nvs pvs : List Value} {ns : List Note} {ps : List Part} {kn kp : Nat} {wd : Str} {t : Tok} {Q : Value → Shared → Prop}
    (hA : Rm 2 A) (O : Ok (hd.heap_1 w.params) R s) (hl : Led R [(th, listOf nvs.toArray kn)] s) (hN : NotesR R nvs ns) (hp : R p = some (listOf pvs.toArray kp)) (hps : PartsR R pvs ps)
    (hS : SaidOk wd ps) (hnl : ns.length ≤ 90000)
    (h : ∀ v s' R' nvs' kn', Post (hd.heap_1 w.params) s [th] R R' [(th, listOf nvs'.toArray kn')] s' → Le R R' → NotesR R' nvs' (ns ++ [(wd, ps)]) → AnsV v (ans wd ps) → Q v s') :
    wpAny (model prog w) A (call (.ref 308) [.ref th, .str wd t, .ref p]) Q E s := by
  obtain ⟨hwl, hg, hmt, hf, hz, hpl⟩ := hS
  refine' enter_ (n := 1) ["notes", "word", "parts"] ["flat", "part"] [("isinstance", .builtin "isinstance"), ("list", .type "list"), ("str", .type "str"), ("len", .builtin "len")] hA O hl ?ho ?hcd ?hc ?hg ?hlen ?hbind ?_
  case ho => k_is
  case hcd => k_is
  case hc => decide +kernel
  case hg => exact (List.forall_mem_cons.mpr ⟨gl_isi w, (List.forall_mem_cons.mpr ⟨gl_list w, (List.forall_mem_cons.mpr ⟨gl_str w, (List.forall_mem_cons.mpr ⟨gl_len w, (fun _ h => nomatch h)⟩)⟩)⟩)⟩)
  case hlen => rfl
  case hbind => exact BindsTo.of_eq rfl
  intro env s' q1 q2 F G hA'
  simp only [l0, List.zip, List.zipWith, List.map, List.nil_append, List.cons_append] at F
  have hh := hA'.hd
  repeat k_all
  rename Fm _ _ _ _ _ _ _ _ _ => F; refine ex_ F ?_ (by with_unfolding_all rfl)
  repeat k_all
  rename Fm _ _ _ _ _ _ _ _ _ => F; refine ntR_ F ?_ (Nat.le_of_ble_eq_true rfl); clear F; intro a s_a hR_a F hn_a
  repeat k_all
  rename Fm _ _ _ _ _ _ _ _ _ => F; refine appL_ F .head (by have := hN.length; omega) ?_; clear F; intro s2 F
  refine thenK_next ?_
  refine seq_ ?_
  k_fold
  refine wpAny_If ?_
  rename Fm _ _ _ _ _ _ _ _ _ => F
  refine cutF_ F (gone wd ps) ?_ ?_
  · repeat k_all
    refine if_e (α := Str) (fun e => ?_) fun e => ?_
    · obtain ⟨x, r, rfl⟩ := hg e
      cases hps with
      | cons h1 h2 =>
        cases h1
        repeat k_all
        rename Fm _ _ _ _ _ _ _ _ _ => F; refine itemL_ (v := .str x _) (F.listR (Le.put hR_a _ _ hp)) (by decide) (by decide) rfl ?_
        repeat k_all
        refine if_c (fun e2 => ?_) fun e2 => ?_
        · repeat k_all
          exact ⟨by simp [gone, e, e2], by assumption⟩
        · exact ⟨by simp [gone, e, e2], by assumption⟩
    · exact ⟨by simp [gone, e], by assumption⟩
  clear F; intro s3 F
  have hNR : NotesR (R.put a (tupOf #[Value.str wd t, Value.ref p] 0)) (nvs ++ [.ref a]) (ns ++ [(wd, ps)]) := (hN.mono (Le.put hR_a)).snoc (NoteR.mk Imm.put_self (Le.put hR_a _ _ hp) (hps.mono (Le.put hR_a)))
  refine if_c (fun e => ?_) fun e => ?_
  · repeat k_all
    rename Fm _ _ _ _ _ _ _ _ _ => F
    refine h _ _ _ _ _ F.post (Le.put hR_a) hNR ?_
    show AnsV .none (ans wd ps)
    have hw : wd ≠ Str.ofString "match" := fun q => by subst q; revert e; simp [gone, show (Str.ofString "match" == Str.ofString "read") = false by decide]
    unfold ans said; rw [if_neg hw, if_pos e]; rfl
  repeat k_all
  refine if_e (α := Str) (fun hw => ?_) fun hw => ?_
  · obtain ⟨x, y, rfl, hxy⟩ := hmt hw
    cases hps with
    | cons h1 h2 =>
    cases h2 with
    | cons h2 h3 =>
    cases h3
    cases h1
    cases h2
    repeat k_all
    rename Fm _ _ _ _ _ _ _ _ _ => F; refine itemL_ (v := .str x _) (F.listR (Le.put hR_a _ _ hp)) (by decide) (by decide) rfl ?_
    repeat k_all
    rename Fm _ _ _ _ _ _ _ _ _ => F; refine itemL_ (v := .str y _) (F.listR (Le.put hR_a _ _ hp)) (by decide) (by decide) rfl ?_
    repeat k_all
    rename Fm _ _ _ _ _ _ _ _ _ => F; refine addS_ F (by omega) ?_; clear F; intro t4 s4 F
    repeat k_all
    rename Fm _ _ _ _ _ _ _ _ _ => F; refine lenS_ F (by rw [Str.length_append]; omega) ?_; clear F; intro t5 s5 F
    repeat k_all
    rename Fm _ _ _ _ _ _ _ _ _ => F; refine modI_ F (by decide) ?_; clear F; intro t6 s6 F
    repeat k_all
    have e4 : (((x ++ y).length : Int).fmod 4 == 0) = decide ((x ++ y).length % 4 = 0) := by
      rw [Bool.eq_iff_iff]
      rw [Int.fmod_eq_emod_of_nonneg _ (by decide)]
      simp only [beq_iff_eq, decide_eq_true_eq]
      omega
    rw [e4]
    refine if_d (fun e5 => ?_) fun e5 => ?_
    · repeat k_all
      rename Fm _ _ _ _ _ _ _ _ _ => F
      refine h _ _ _ _ _ F.post (Le.put hR_a) hNR ?_
      unfold ans; rw [if_pos hw]; dsimp only; rw [if_pos e5]; rfl
    · repeat k_all
      rename Fm _ _ _ _ _ _ _ _ _ => F; refine itemL_ (v := .str x _) (F.listR (Le.put hR_a _ _ hp)) (by decide) (by decide) rfl ?_
      repeat k_all
      rename Fm _ _ _ _ _ _ _ _ _ => F; refine lenS_ F (by omega) ?_; clear F; intro t5 s5 F
      repeat k_all
      rename Fm _ _ _ _ _ _ _ _ _ => F
      refine h _ _ _ _ _ F.post (Le.put hR_a) hNR ?_
      unfold ans; rw [if_pos hw]; dsimp only; rw [if_neg e5]; exact ⟨_, rfl⟩
  repeat k_all
  rename Fm _ _ _ _ _ _ _ _ _ => F; refine nl_ F ?_ (Nat.le_of_ble_eq_true rfl); clear F; intro f s_f F hn_f
  repeat k_all
  refine For_ ?_
  repeat k_all
  rename Fm _ _ _ _ _ _ _ _ _ => F
  refine iterL_ F (F.listR (Le.put hR_a _ _ hp)) ?_
  clear F; intro it o s5 ho hn_it F
  generalize hth : (_ : List Value) ++ [Value.ref a] = nvs2 at F
  refine forL_all (τ := SaT) (fun _ => R.put a (tupOf #[Value.str wd t, Value.ref p] 0)) (fun c => [("notes", some (.ref th)), ("word", some (.str wd t)), ("parts", some (.ref p)), ("flat", some (.ref f)), ("part", c.v)]) (fun c v => [("notes", some (.ref th)), ("word", some (.str wd t)), ("parts", some (.ref p)), ("flat", some (.ref f)), ("part", some v)])
    (fun c => [(f, listOf c.vs.toArray c.n), (th, listOf nvs2.toArray (kn + 1))]) (fun i c => StrsAre c.vs ((ps.map Part.text).take i))
    hh hn_it (fun c v => .tail (.tail (.tail (.tail .head)))) (fun i c hp' => Le.put hR_a _ _ hp) ?turn ?done _ _ ⟨[], 0, none⟩ _ _ (Nat.zero_add _) .nil ho F
  case done =>
    clear F
    intro c s6 hc F
    rw [List.size_toArray, hps.length, List.take_of_length_le (by rw [List.length_map]; exact Nat.le_refl _)] at hc
    repeat k_all
    refine slice_ ?_
    refine wpAny_evalPart_none ?_
    refine wpAny_evalPart_some ?_
    repeat k_all
    have hsl := Txt.slice_le wd none (some 1)
    have hjl := join_length_le' (Str.ofString ",") (ps.map Part.text) (by decide)
    rw [List.length_map] at hjl
    rename Fm _ _ _ _ _ _ _ _ _ => F; refine sliceS_ F (by omega) ?_; clear F; intro t7 s7 F
    repeat k_all
    rename Fm _ _ _ _ _ _ _ _ _ => F; refine addS_ F (by show (Txt.slice wd none (some 1)).length + 1 ≤ 16000000; omega) ?_; clear F; intro t8 s8 F
    repeat k_all
    rename Fm _ _ _ _ _ _ _ _ _ => F; refine joinL_ F (F.listAt (.head _)) (by simpa using hc) (by decide) (by rw [List.length_map]; omega) ?_; clear F; intro t9 s9 F
    repeat k_all
    rename Fm _ _ _ _ _ _ _ _ _ => F; refine addS_ F (by rw [Str.length_append]; show (Txt.slice wd none (some 1)).length + 1 + (Txt.join _ _).length ≤ 16000000; omega) ?_; clear F; intro t10 s10 F
    repeat k_all
    rename Fm _ _ _ _ _ _ _ _ _ => F; refine addS_ F (by rw [Str.length_append, Str.length_append]; show (Txt.slice wd none (some 1)).length + 1 + (Txt.join _ _).length + 1 ≤ 16000000; omega) ?_; clear F; intro t11 s11 F
    repeat k_all
    rename Fm _ _ _ _ _ _ _ _ _ => F
    refine h _ _ _ _ _ F.drop.post (Le.put hR_a) (hth ▸ hNR) ?_
    unfold ans; rw [if_neg hw]; unfold said; rw [if_neg (by rw [e]; exact Bool.false_ne_true)]; exact ⟨_, rfl⟩
  case turn =>
    clear F
    intro i v c s6 o6 hv hc F
    obtain ⟨part, hpi, hpr⟩ := PartsR.get hps (by simpa using hv)
    have hpart := hf part (List.mem_of_getElem? hpi)
    have hlc := StrsAre.length' hc
    have hil : i < ps.length := (List.getElem?_eq_some_iff.mp hpi).1
    have hnext : (ps.map Part.text).take (i + 1) = (ps.map Part.text).take i ++ [part.text] := take_succ_get (by rw [List.getElem?_map, hpi]; rfl)
    have hcl : c.vs.length ≤ 100 := by rw [hlc, List.length_take, List.length_map]; omega
    cases hpr with
    | s =>
      repeat k_all
      rename Fm _ _ _ _ _ _ _ _ _ => F; refine ex_ F ?_ (by with_unfolding_all rfl)
      repeat k_all
      rename Fm _ _ _ _ _ _ _ _ _ => F; refine isiS_ F ?_; clear F; intro s7 F
      repeat k_all
      rename Fm _ _ _ _ _ _ _ _ _ => F; refine appL_ F (.tail .head) (by omega) ?_; clear F; intro s8 F
      repeat k_all
      rename Fm _ _ _ _ _ _ _ _ _ => F
      exact turnK_next ⟨_, _, _⟩ (by rw [hnext]; exact StrsAre.snoc' hc) F
    | b =>
      repeat k_all
      rename Fm _ _ _ _ _ _ _ _ _ => F; refine ex_ F ?_ (by with_unfolding_all rfl)
      repeat k_all
      rename Fm _ _ _ _ _ _ _ _ _ => F; refine isiB_ F ?_; clear F; intro s7 F
      repeat k_all
      rename Fm _ _ _ _ _ _ _ _ _ => F; refine strB_ F ?_; clear F; intro tb s9 F
      repeat k_all
      rename Fm _ _ _ _ _ _ _ _ _ => F; refine appL_ F (.tail .head) (by omega) ?_; clear F; intro s8 F
      repeat k_all
      rename Fm _ _ _ _ _ _ _ _ _ => F
      exact turnK_next ⟨_, _, _⟩ (by rw [hnext]; exact StrsAre.snoc' hc) F
    | i =>
      repeat k_all
      rename Fm _ _ _ _ _ _ _ _ _ => F; refine ex_ F ?_ (by with_unfolding_all rfl)
      repeat k_all
      rename Fm _ _ _ _ _ _ _ _ _ => F; refine isiI_ F ?_; clear F; intro s7 F
      repeat k_all
      rename Fm _ _ _ _ _ _ _ _ _ => F; refine strI_ F hpart ?_; clear F; intro tb s9 F
      repeat k_all
      rename Fm _ _ _ _ _ _ _ _ _ => F; refine appL_ F (.tail .head) (by omega) ?_; clear F; intro s8 F
      repeat k_all
      rename Fm _ _ _ _ _ _ _ _ _ => F
      exact turnK_next ⟨_, _, _⟩ (by rw [hnext]; exact StrsAre.snoc' hc) F
    | @l la lvs lk xs h1 h2 =>
      have hfit : (xs.map (·.length)).sum + xs.length * 64 ≤ 8000000 := hpart
      have hjl := join_length_le' (Str.ofString ";") xs (by decide)
      repeat k_all
      rename Fm _ _ _ _ _ _ _ _ _ => F; refine ex_ F ?_ (by with_unfolding_all rfl)
      repeat k_all
      rename Fm _ _ _ _ _ _ _ _ _ => F; refine isiL_ (F.listR (Le.put hR_a _ _ h1)) ?_
      repeat k_all
      rename Fm _ _ _ _ _ _ _ _ _ => F; refine joinL_ F (F.listR (Le.put hR_a _ _ h1)) (by simpa using h2) (by decide) (by omega) ?_; clear F; intro tb s9 F
      repeat k_all
      rename Fm _ _ _ _ _ _ _ _ _ => F; refine addS_ F (by show 1 + (Txt.join _ xs).length ≤ 16000000; omega) ?_; clear F; intro tc s10 F
      repeat k_all
      rename Fm _ _ _ _ _ _ _ _ _ => F; refine addS_ F (by rw [Str.length_append]; show 1 + (Txt.join _ xs).length + 1 ≤ 16000000; omega) ?_; clear F; intro td s11 F
      repeat k_all
      rename Fm _ _ _ _ _ _ _ _ _ => F; refine appL_ F (.tail .head) (by omega) ?_; clear F; intro s8 F
      repeat k_all
      rename Fm _ _ _ _ _ _ _ _ _ => F
      exact turnK_next ⟨_, _, _⟩ (by rw [hnext]; exact StrsAre.snoc' hc) F
end

-- LH
theorem hG_replies (w : World) : GetsK (hd.heap_1 w.params) 227 "replies" := ⟨by k_is, by k_is, by k_is⟩
theorem hM_ask (w : World) : MethsK (hd.heap_1 w.params) 227 "ask" 105 := ⟨by k_is, by k_is, by k_is⟩
noncomputable def HookR (R : Imm) (hk lam : Addr) : Prop := ∃ dx h1 t1 h2 t2 h3 t3 lv nv n, R hk = some (instObj 227 dx) ∧ R dx = some (dictOf [⟨h1, .str "replies" t1, .ref lam⟩, ⟨h2, .str "labels" t2, lv⟩, ⟨h3, .str "notes" t3, nv⟩] n)
theorem HookR.mono {R R' : Imm} {hk lam : Addr} (k : Le R R') (h : HookR R hk lam) : HookR R' hk lam := by
  obtain ⟨dx, h1, t1, h2, t2, h3, t3, lv, nv, n, a, b⟩ := h
  exact ⟨dx, h1, t1, h2, t2, h3, t3, lv, nv, n, k _ _ a, k _ _ b⟩
theorem FnR.mono {R R' : Imm} {a : Addr} (k : Le R R') (h : FnR R a) : FnR R' a := by
  obtain ⟨o, fd, x, y⟩ := h
  exact ⟨o, fd, k _ _ x, y⟩
noncomputable def AskC (prog : Program) (w : World) (R1 : Imm) (lam th : Addr) : Prop := ∀ {A : Around} {E : Value → Shared → Prop} {s : Shared} {R : Imm} {nvs pvs : List Value} {kn kp : Nat} {ns : List Note} {wd : Str} {t : Tok} {p : Addr} {ps : List Part} {Q : Value → Shared → Prop},
  Le R1 R → Rm 3 A → Ok (hd.heap_1 w.params) R s → Led R [(th, listOf nvs.toArray kn)] s → NotesR R nvs ns → R p = some (listOf pvs.toArray kp) → PartsR R pvs ps → SaidOk wd ps → ns.length ≤ 90000 →
  (∀ v s' R' nvs' kn', Post (hd.heap_1 w.params) s [th] R R' [(th, listOf nvs'.toArray kn')] s' → Le R R' → NotesR R' nvs' (ns ++ [(wd, ps)]) → AnsV v (ans wd ps) → Q v s') → wpAny (model prog w) A (call (.ref lam) [.str wd t, .ref p]) Q E s
section
variable {prog : Program} {w : World} {s : Shared} {R R1 : Imm} {A : Around} {E : Value → Shared → Prop} {hk lam th : Addr} {nvs : List Value} {kn : Nat} {ns : List Note}
theorem ask_ {pvs : List Value} {kp : Nat} {wd : Str} {t : Tok} {p : Addr} {ps : List Part} {Q : Value → Shared → Prop} (hA : Rm 4 A) (O : Ok (hd.heap_1 w.params) R s) (hl : Led R [(th, listOf nvs.toArray kn)] s) (hN : NotesR R nvs ns) (hnl : ns.length ≤ 90000)
    (hH : HookR R hk lam) (hL : FnR R lam) (hC : AskC prog w R1 lam th) (h1R : Le R1 R) (hp : R p = some (listOf pvs.toArray kp)) (hps : PartsR R pvs ps) (hS : SaidOk wd ps)
    (h : ∀ v s' R' nvs' kn', Post (hd.heap_1 w.params) s [th] R R' [(th, listOf nvs'.toArray kn')] s' → Le R R' → NotesR R' nvs' (ns ++ [(wd, ps)]) → AnsV v (ans wd ps) → Q v s') :
    wpAny (model prog w) A (call (.ref 105) [.ref hk, .str wd t, .ref p]) Q E s := by
  obtain ⟨dx, h1, t1, h2, t2, h3, t3, lv, nv, n, hx, hdx⟩ := hH
  refine' enter_ (n := 3) ["self", "word", "parts"] ["replies"] [] hA O hl ?ho ?hcd ?hc ?hg ?hlen ?hbind ?_
  case ho => k_is
  case hcd => k_is
  case hc => decide +kernel
  case hg => exact (fun _ h => nomatch h)
  case hlen => rfl
  case hbind => exact BindsTo.of_eq rfl
  intro env s' q1 q2 F G hA'
  simp only [l0, List.zip, List.zipWith, List.map, List.nil_append, List.cons_append] at F
  have hh := hA'.hd
  repeat k_all
  rename Fm _ _ _ _ _ _ _ _ _ => F; refine attr_ F hx (F.out.ok.sub _ _ hdx) (hG_replies w) rfl rfl ?_; clear F; intro s3 F
  repeat k_all
  refine callR_ hL ?_ (by with_unfolding_all rfl) (by with_unfolding_all rfl)
  repeat k_all
  rename Fm _ _ _ _ _ _ _ _ _ => F
  refine inR_ F hL ?_
  refine hC h1R hA' F.out.ok (F.front (l2 := [])) hN hp hps hS hnl ?_
  intro v s4 R' nvs' kn' P4 le4 hN4 hv4
  have F4 := F.after1 P4
  clear F
  repeat k_all
  rename Fm _ _ _ _ _ _ _ _ _ => F
  exact h _ _ _ _ _ F.post le4 hN4 hv4
theorem h_var {v0 : Value} {p0 : Part} {Q : Value → Shared → Prop} (hA : Rm 5 A) (O : Ok (hd.heap_1 w.params) R s) (hl : Led R [(th, listOf nvs.toArray kn)] s) (hN : NotesR R nvs ns) (hnl : ns.length ≤ 90000)
    (hH : HookR R hk lam) (hL : FnR R lam) (hC : AskC prog w R1 lam th) (h1R : Le R1 R) (hp0 : PartR R v0 p0) (hS : SaidOk (Str.ofString "read") [p0])
    (h : ∀ v s' R' nvs' kn', Post (hd.heap_1 w.params) s [th] R R' [(th, listOf nvs'.toArray kn')] s' → Le R R' → NotesR R' nvs' (ns ++ [((Str.ofString "read"), [p0])]) → AnsV v (ans (Str.ofString "read") [p0]) → Q v s') :
    wpAny (model prog w) A (call (.ref 112) [.ref hk, v0]) Q E s := by
  have hH' := hH
  obtain ⟨dx, h1, t1, h2, t2, h3, t3, lv, nv, n, hx, hdx⟩ := hH
  refine' enter_ (n := 4) ["self", "name"] [] [] hA O hl ?ho ?hcd ?hc ?hg ?hlen ?hbind ?_
  case ho => k_is
  case hcd => k_is
  case hc => decide +kernel
  case hg => exact (fun _ h => nomatch h)
  case hlen => rfl
  case hbind => exact BindsTo.of_eq rfl
  intro env s' q1 q2 F G hA'
  simp only [l0, List.zip, List.zipWith, List.map, List.nil_append, List.cons_append] at F
  have hh := hA'.hd
  repeat k_all
  rename Fm _ _ _ _ _ _ _ _ _ => F; refine meth_ F hx (F.out.ok.sub _ _ hdx) (hM_ask w) rfl ?_
  repeat k_all
  rename Fm _ _ _ _ _ _ _ _ _ => F; refine nlR_ F ?_ (Nat.le_of_ble_eq_true rfl); clear F; intro p s_p hR_p F hn_p
  repeat k_all
  rename Fm _ _ _ _ _ _ _ _ _ => F
  refine ask_ hA' F.out.ok (F.front (l2 := [])) (hN.mono (Le.put hR_p)) hnl (hH'.mono (Le.put hR_p)) (hL.mono (Le.put hR_p)) hC (h1R.trans (Le.put hR_p)) Imm.put_self (.cons (hp0.mono (Le.put hR_p)) (.nil)) hS ?_
  intro v s4 R' nvs' kn' P4 le4 hN4 hv4
  have F4 := F.after1 P4
  clear F
  repeat k_all
  rename Fm _ _ _ _ _ _ _ _ _ => F
  exact h _ _ _ _ _ F.post ((Le.put hR_p).trans le4) hN4 hv4
theorem h_nameof {kd : Str} {kt : Tok} {v0 : Value} {p0 : Part} {Q : Value → Shared → Prop} (hA : Rm 5 A) (O : Ok (hd.heap_1 w.params) R s) (hl : Led R [(th, listOf nvs.toArray kn)] s) (hN : NotesR R nvs ns) (hnl : ns.length ≤ 90000)
    (hH : HookR R hk lam) (hL : FnR R lam) (hC : AskC prog w R1 lam th) (h1R : Le R1 R) (hp0 : PartR R v0 p0) (hS : SaidOk kd [p0])
    (h : ∀ v s' R' nvs' kn', Post (hd.heap_1 w.params) s [th] R R' [(th, listOf nvs'.toArray kn')] s' → Le R R' → NotesR R' nvs' (ns ++ [(kd, [p0])]) → AnsV v (ans kd [p0]) → Q v s') :
    wpAny (model prog w) A (call (.ref 119) [.ref hk, .str kd kt, v0]) Q E s := by
  have hH' := hH
  obtain ⟨dx, h1, t1, h2, t2, h3, t3, lv, nv, n, hx, hdx⟩ := hH
  refine' enter_ (n := 4) ["self", "kind", "name"] [] [] hA O hl ?ho ?hcd ?hc ?hg ?hlen ?hbind ?_
  case ho => k_is
  case hcd => k_is
  case hc => decide +kernel
  case hg => exact (fun _ h => nomatch h)
  case hlen => rfl
  case hbind => exact BindsTo.of_eq rfl
  intro env s' q1 q2 F G hA'
  simp only [l0, List.zip, List.zipWith, List.map, List.nil_append, List.cons_append] at F
  have hh := hA'.hd
  repeat k_all
  rename Fm _ _ _ _ _ _ _ _ _ => F; refine meth_ F hx (F.out.ok.sub _ _ hdx) (hM_ask w) rfl ?_
  repeat k_all
  rename Fm _ _ _ _ _ _ _ _ _ => F; refine nlR_ F ?_ (Nat.le_of_ble_eq_true rfl); clear F; intro p s_p hR_p F hn_p
  repeat k_all
  rename Fm _ _ _ _ _ _ _ _ _ => F
  refine ask_ hA' F.out.ok (F.front (l2 := [])) (hN.mono (Le.put hR_p)) hnl (hH'.mono (Le.put hR_p)) (hL.mono (Le.put hR_p)) hC (h1R.trans (Le.put hR_p)) Imm.put_self (.cons (hp0.mono (Le.put hR_p)) (.nil)) hS ?_
  intro v s4 R' nvs' kn' P4 le4 hN4 hv4
  have F4 := F.after1 P4
  clear F
  repeat k_all
  rename Fm _ _ _ _ _ _ _ _ _ => F
  exact h _ _ _ _ _ F.post ((Le.put hR_p).trans le4) hN4 hv4
theorem h_namedby {v0 : Value} {p0 : Part} {Q : Value → Shared → Prop} (hA : Rm 5 A) (O : Ok (hd.heap_1 w.params) R s) (hl : Led R [(th, listOf nvs.toArray kn)] s) (hN : NotesR R nvs ns) (hnl : ns.length ≤ 90000)
    (hH : HookR R hk lam) (hL : FnR R lam) (hC : AskC prog w R1 lam th) (h1R : Le R1 R) (hp0 : PartR R v0 p0) (hS : SaidOk (Str.ofString "indirect") [p0])
    (h : ∀ v s' R' nvs' kn', Post (hd.heap_1 w.params) s [th] R R' [(th, listOf nvs'.toArray kn')] s' → Le R R' → NotesR R' nvs' (ns ++ [((Str.ofString "indirect"), [p0])]) → AnsV v (ans (Str.ofString "indirect") [p0]) → Q v s') :
    wpAny (model prog w) A (call (.ref 126) [.ref hk, v0]) Q E s := by
  have hH' := hH
  obtain ⟨dx, h1, t1, h2, t2, h3, t3, lv, nv, n, hx, hdx⟩ := hH
  refine' enter_ (n := 4) ["self", "value"] [] [] hA O hl ?ho ?hcd ?hc ?hg ?hlen ?hbind ?_
  case ho => k_is
  case hcd => k_is
  case hc => decide +kernel
  case hg => exact (fun _ h => nomatch h)
  case hlen => rfl
  case hbind => exact BindsTo.of_eq rfl
  intro env s' q1 q2 F G hA'
  simp only [l0, List.zip, List.zipWith, List.map, List.nil_append, List.cons_append] at F
  have hh := hA'.hd
  repeat k_all
  rename Fm _ _ _ _ _ _ _ _ _ => F; refine meth_ F hx (F.out.ok.sub _ _ hdx) (hM_ask w) rfl ?_
  repeat k_all
  rename Fm _ _ _ _ _ _ _ _ _ => F; refine nlR_ F ?_ (Nat.le_of_ble_eq_true rfl); clear F; intro p s_p hR_p F hn_p
  repeat k_all
  rename Fm _ _ _ _ _ _ _ _ _ => F
  refine ask_ hA' F.out.ok (F.front (l2 := [])) (hN.mono (Le.put hR_p)) hnl (hH'.mono (Le.put hR_p)) (hL.mono (Le.put hR_p)) hC (h1R.trans (Le.put hR_p)) Imm.put_self (.cons (hp0.mono (Le.put hR_p)) (.nil)) hS ?_
  intro v s4 R' nvs' kn' P4 le4 hN4 hv4
  have F4 := F.after1 P4
  clear F
  repeat k_all
  rename Fm _ _ _ _ _ _ _ _ _ => F
  exact h _ _ _ _ _ F.post ((Le.put hR_p).trans le4) hN4 hv4
theorem h_refvalue {v0 : Value} {p0 : Part} {Q : Value → Shared → Prop} (hA : Rm 5 A) (O : Ok (hd.heap_1 w.params) R s) (hl : Led R [(th, listOf nvs.toArray kn)] s) (hN : NotesR R nvs ns) (hnl : ns.length ≤ 90000)
    (hH : HookR R hk lam) (hL : FnR R lam) (hC : AskC prog w R1 lam th) (h1R : Le R1 R) (hp0 : PartR R v0 p0) (hS : SaidOk (Str.ofString "value") [p0])
    (h : ∀ v s' R' nvs' kn', Post (hd.heap_1 w.params) s [th] R R' [(th, listOf nvs'.toArray kn')] s' → Le R R' → NotesR R' nvs' (ns ++ [((Str.ofString "value"), [p0])]) → AnsV v (ans (Str.ofString "value") [p0]) → Q v s') :
    wpAny (model prog w) A (call (.ref 133) [.ref hk, v0]) Q E s := by
  have hH' := hH
  obtain ⟨dx, h1, t1, h2, t2, h3, t3, lv, nv, n, hx, hdx⟩ := hH
  refine' enter_ (n := 4) ["self", "ref"] [] [] hA O hl ?ho ?hcd ?hc ?hg ?hlen ?hbind ?_
  case ho => k_is
  case hcd => k_is
  case hc => decide +kernel
  case hg => exact (fun _ h => nomatch h)
  case hlen => rfl
  case hbind => exact BindsTo.of_eq rfl
  intro env s' q1 q2 F G hA'
  simp only [l0, List.zip, List.zipWith, List.map, List.nil_append, List.cons_append] at F
  have hh := hA'.hd
  repeat k_all
  rename Fm _ _ _ _ _ _ _ _ _ => F; refine meth_ F hx (F.out.ok.sub _ _ hdx) (hM_ask w) rfl ?_
  repeat k_all
  rename Fm _ _ _ _ _ _ _ _ _ => F; refine nlR_ F ?_ (Nat.le_of_ble_eq_true rfl); clear F; intro p s_p hR_p F hn_p
  repeat k_all
  rename Fm _ _ _ _ _ _ _ _ _ => F
  refine ask_ hA' F.out.ok (F.front (l2 := [])) (hN.mono (Le.put hR_p)) hnl (hH'.mono (Le.put hR_p)) (hL.mono (Le.put hR_p)) hC (h1R.trans (Le.put hR_p)) Imm.put_self (.cons (hp0.mono (Le.put hR_p)) (.nil)) hS ?_
  intro v s4 R' nvs' kn' P4 le4 hN4 hv4
  have F4 := F.after1 P4
  clear F
  repeat k_all
  rename Fm _ _ _ _ _ _ _ _ _ => F
  exact h _ _ _ _ _ F.post ((Le.put hR_p).trans le4) hN4 hv4
theorem h_called {v0 : Value} {p0 : Part} {v1 : Value} {p1 : Part} {v2 : Value} {p2 : Part} {Q : Value → Shared → Prop} (hA : Rm 5 A) (O : Ok (hd.heap_1 w.params) R s) (hl : Led R [(th, listOf nvs.toArray kn)] s) (hN : NotesR R nvs ns) (hnl : ns.length ≤ 90000)
    (hH : HookR R hk lam) (hL : FnR R lam) (hC : AskC prog w R1 lam th) (h1R : Le R1 R) (hp0 : PartR R v0 p0) (hp1 : PartR R v1 p1) (hp2 : PartR R v2 p2) (hS : SaidOk (Str.ofString "call") [p0, p1, p2])
    (h : ∀ v s' R' nvs' kn', Post (hd.heap_1 w.params) s [th] R R' [(th, listOf nvs'.toArray kn')] s' → Le R R' → NotesR R' nvs' (ns ++ [((Str.ofString "call"), [p0, p1, p2])]) → AnsV v (ans (Str.ofString "call") [p0, p1, p2]) → Q v s') :
    wpAny (model prog w) A (call (.ref 140) [.ref hk, v0, v1, v2]) Q E s := by
  have hH' := hH
  obtain ⟨dx, h1, t1, h2, t2, h3, t3, lv, nv, n, hx, hdx⟩ := hH
  refine' enter_ (n := 4) ["self", "name", "args", "wants_name"] [] [] hA O hl ?ho ?hcd ?hc ?hg ?hlen ?hbind ?_
  case ho => k_is
  case hcd => k_is
  case hc => decide +kernel
  case hg => exact (fun _ h => nomatch h)
  case hlen => rfl
  case hbind => exact BindsTo.of_eq rfl
  intro env s' q1 q2 F G hA'
  simp only [l0, List.zip, List.zipWith, List.map, List.nil_append, List.cons_append] at F
  have hh := hA'.hd
  repeat k_all
  rename Fm _ _ _ _ _ _ _ _ _ => F; refine meth_ F hx (F.out.ok.sub _ _ hdx) (hM_ask w) rfl ?_
  repeat k_all
  rename Fm _ _ _ _ _ _ _ _ _ => F; refine nlR_ F ?_ (Nat.le_of_ble_eq_true rfl); clear F; intro p s_p hR_p F hn_p
  repeat k_all
  rename Fm _ _ _ _ _ _ _ _ _ => F
  refine ask_ hA' F.out.ok (F.front (l2 := [])) (hN.mono (Le.put hR_p)) hnl (hH'.mono (Le.put hR_p)) (hL.mono (Le.put hR_p)) hC (h1R.trans (Le.put hR_p)) Imm.put_self (.cons (hp0.mono (Le.put hR_p)) (.cons (hp1.mono (Le.put hR_p)) (.cons (hp2.mono (Le.put hR_p)) (.nil)))) hS ?_
  intro v s4 R' nvs' kn' P4 le4 hN4 hv4
  have F4 := F.after1 P4
  clear F
  repeat k_all
  rename Fm _ _ _ _ _ _ _ _ _ => F
  exact h _ _ _ _ _ F.post ((Le.put hR_p).trans le4) hN4 hv4
theorem h_itemof {v0 : Value} {p0 : Part} {v1 : Value} {p1 : Part} {v2 : Value} {p2 : Part} {Q : Value → Shared → Prop} (hA : Rm 5 A) (O : Ok (hd.heap_1 w.params) R s) (hl : Led R [(th, listOf nvs.toArray kn)] s) (hN : NotesR R nvs ns) (hnl : ns.length ≤ 90000)
    (hH : HookR R hk lam) (hL : FnR R lam) (hC : AskC prog w R1 lam th) (h1R : Le R1 R) (hp0 : PartR R v0 p0) (hp1 : PartR R v1 p1) (hp2 : PartR R v2 p2) (hS : SaidOk (Str.ofString "item") [p0, p1, p2])
    (h : ∀ v s' R' nvs' kn', Post (hd.heap_1 w.params) s [th] R R' [(th, listOf nvs'.toArray kn')] s' → Le R R' → NotesR R' nvs' (ns ++ [((Str.ofString "item"), [p0, p1, p2])]) → AnsV v (ans (Str.ofString "item") [p0, p1, p2]) → Q v s') :
    wpAny (model prog w) A (call (.ref 147) [.ref hk, v0, v1, v2]) Q E s := by
  have hH' := hH
  obtain ⟨dx, h1, t1, h2, t2, h3, t3, lv, nv, n, hx, hdx⟩ := hH
  refine' enter_ (n := 4) ["self", "owner", "keys", "wants_name"] [] [] hA O hl ?ho ?hcd ?hc ?hg ?hlen ?hbind ?_
  case ho => k_is
  case hcd => k_is
  case hc => decide +kernel
  case hg => exact (fun _ h => nomatch h)
  case hlen => rfl
  case hbind => exact BindsTo.of_eq rfl
  intro env s' q1 q2 F G hA'
  simp only [l0, List.zip, List.zipWith, List.map, List.nil_append, List.cons_append] at F
  have hh := hA'.hd
  repeat k_all
  rename Fm _ _ _ _ _ _ _ _ _ => F; refine meth_ F hx (F.out.ok.sub _ _ hdx) (hM_ask w) rfl ?_
  repeat k_all
  rename Fm _ _ _ _ _ _ _ _ _ => F; refine nlR_ F ?_ (Nat.le_of_ble_eq_true rfl); clear F; intro p s_p hR_p F hn_p
  repeat k_all
  rename Fm _ _ _ _ _ _ _ _ _ => F
  refine ask_ hA' F.out.ok (F.front (l2 := [])) (hN.mono (Le.put hR_p)) hnl (hH'.mono (Le.put hR_p)) (hL.mono (Le.put hR_p)) hC (h1R.trans (Le.put hR_p)) Imm.put_self (.cons (hp0.mono (Le.put hR_p)) (.cons (hp1.mono (Le.put hR_p)) (.cons (hp2.mono (Le.put hR_p)) (.nil)))) hS ?_
  intro v s4 R' nvs' kn' P4 le4 hN4 hv4
  have F4 := F.after1 P4
  clear F
  repeat k_all
  rename Fm _ _ _ _ _ _ _ _ _ => F
  exact h _ _ _ _ _ F.post ((Le.put hR_p).trans le4) hN4 hv4
theorem h_operated {v0 : Value} {p0 : Part} {v1 : Value} {p1 : Part} {Q : Value → Shared → Prop} (hA : Rm 5 A) (O : Ok (hd.heap_1 w.params) R s) (hl : Led R [(th, listOf nvs.toArray kn)] s) (hN : NotesR R nvs ns) (hnl : ns.length ≤ 90000)
    (hH : HookR R hk lam) (hL : FnR R lam) (hC : AskC prog w R1 lam th) (h1R : Le R1 R) (hp0 : PartR R v0 p0) (hp1 : PartR R v1 p1) (hS : SaidOk (Str.ofString "operator") [p0, p1])
    (h : ∀ v s' R' nvs' kn', Post (hd.heap_1 w.params) s [th] R R' [(th, listOf nvs'.toArray kn')] s' → Le R R' → NotesR R' nvs' (ns ++ [((Str.ofString "operator"), [p0, p1])]) → AnsV v (ans (Str.ofString "operator") [p0, p1]) → Q v s') :
    wpAny (model prog w) A (call (.ref 154) [.ref hk, v0, v1]) Q E s := by
  have hH' := hH
  obtain ⟨dx, h1, t1, h2, t2, h3, t3, lv, nv, n, hx, hdx⟩ := hH
  refine' enter_ (n := 4) ["self", "op", "args"] [] [] hA O hl ?ho ?hcd ?hc ?hg ?hlen ?hbind ?_
  case ho => k_is
  case hcd => k_is
  case hc => decide +kernel
  case hg => exact (fun _ h => nomatch h)
  case hlen => rfl
  case hbind => exact BindsTo.of_eq rfl
  intro env s' q1 q2 F G hA'
  simp only [l0, List.zip, List.zipWith, List.map, List.nil_append, List.cons_append] at F
  have hh := hA'.hd
  repeat k_all
  rename Fm _ _ _ _ _ _ _ _ _ => F; refine meth_ F hx (F.out.ok.sub _ _ hdx) (hM_ask w) rfl ?_
  repeat k_all
  rename Fm _ _ _ _ _ _ _ _ _ => F; refine nlR_ F ?_ (Nat.le_of_ble_eq_true rfl); clear F; intro p s_p hR_p F hn_p
  repeat k_all
  rename Fm _ _ _ _ _ _ _ _ _ => F
  refine ask_ hA' F.out.ok (F.front (l2 := [])) (hN.mono (Le.put hR_p)) hnl (hH'.mono (Le.put hR_p)) (hL.mono (Le.put hR_p)) hC (h1R.trans (Le.put hR_p)) Imm.put_self (.cons (hp0.mono (Le.put hR_p)) (.cons (hp1.mono (Le.put hR_p)) (.nil))) hS ?_
  intro v s4 R' nvs' kn' P4 le4 hN4 hv4
  have F4 := F.after1 P4
  clear F
  repeat k_all
  rename Fm _ _ _ _ _ _ _ _ _ => F
  exact h _ _ _ _ _ F.post ((Le.put hR_p).trans le4) hN4 hv4
theorem h_delayed {v0 : Value} {p0 : Part} {Q : Value → Shared → Prop} (hA : Rm 5 A) (O : Ok (hd.heap_1 w.params) R s) (hl : Led R [(th, listOf nvs.toArray kn)] s) (hN : NotesR R nvs ns) (hnl : ns.length ≤ 90000)
    (hH : HookR R hk lam) (hL : FnR R lam) (hC : AskC prog w R1 lam th) (h1R : Le R1 R) (hp0 : PartR R v0 p0) (hS : SaidOk (Str.ofString "delayed") [p0])
    (h : ∀ v s' R' nvs' kn', Post (hd.heap_1 w.params) s [th] R R' [(th, listOf nvs'.toArray kn')] s' → Le R R' → NotesR R' nvs' (ns ++ [((Str.ofString "delayed"), [p0])]) → AnsV v (ans (Str.ofString "delayed") [p0]) → Q v s') :
    wpAny (model prog w) A (call (.ref 161) [.ref hk, v0]) Q E s := by
  have hH' := hH
  obtain ⟨dx, h1, t1, h2, t2, h3, t3, lv, nv, n, hx, hdx⟩ := hH
  refine' enter_ (n := 4) ["self", "tree"] [] [] hA O hl ?ho ?hcd ?hc ?hg ?hlen ?hbind ?_
  case ho => k_is
  case hcd => k_is
  case hc => decide +kernel
  case hg => exact (fun _ h => nomatch h)
  case hlen => rfl
  case hbind => exact BindsTo.of_eq rfl
  intro env s' q1 q2 F G hA'
  simp only [l0, List.zip, List.zipWith, List.map, List.nil_append, List.cons_append] at F
  have hh := hA'.hd
  repeat k_all
  rename Fm _ _ _ _ _ _ _ _ _ => F; refine meth_ F hx (F.out.ok.sub _ _ hdx) (hM_ask w) rfl ?_
  repeat k_all
  rename Fm _ _ _ _ _ _ _ _ _ => F; refine nlR_ F ?_ (Nat.le_of_ble_eq_true rfl); clear F; intro p s_p hR_p F hn_p
  repeat k_all
  rename Fm _ _ _ _ _ _ _ _ _ => F
  refine ask_ hA' F.out.ok (F.front (l2 := [])) (hN.mono (Le.put hR_p)) hnl (hH'.mono (Le.put hR_p)) (hL.mono (Le.put hR_p)) hC (h1R.trans (Le.put hR_p)) Imm.put_self (.cons (hp0.mono (Le.put hR_p)) (.nil)) hS ?_
  intro v s4 R' nvs' kn' P4 le4 hN4 hv4
  have F4 := F.after1 P4
  clear F
  repeat k_all
  rename Fm _ _ _ _ _ _ _ _ _ => F
  exact h _ _ _ _ _ F.post ((Le.put hR_p).trans le4) hN4 hv4
theorem h_givenpart {v0 : Value} {p0 : Part} {v1 : Value} {p1 : Part} {v2 : Value} {p2 : Part} {Q : Value → Shared → Prop} (hA : Rm 5 A) (O : Ok (hd.heap_1 w.params) R s) (hl : Led R [(th, listOf nvs.toArray kn)] s) (hN : NotesR R nvs ns) (hnl : ns.length ≤ 90000)
    (hH : HookR R hk lam) (hL : FnR R lam) (hC : AskC prog w R1 lam th) (h1R : Le R1 R) (hp0 : PartR R v0 p0) (hp1 : PartR R v1 p1) (hp2 : PartR R v2 p2) (hS : SaidOk (Str.ofString "given") [p0, p1, p2])
    (h : ∀ v s' R' nvs' kn', Post (hd.heap_1 w.params) s [th] R R' [(th, listOf nvs'.toArray kn')] s' → Le R R' → NotesR R' nvs' (ns ++ [((Str.ofString "given"), [p0, p1, p2])]) → AnsV v (ans (Str.ofString "given") [p0, p1, p2]) → Q v s') :
    wpAny (model prog w) A (call (.ref 168) [.ref hk, v0, v1, v2]) Q E s := by
  have hH' := hH
  obtain ⟨dx, h1, t1, h2, t2, h3, t3, lv, nv, n, hx, hdx⟩ := hH
  refine' enter_ (n := 4) ["self", "op", "value", "ref"] [] [] hA O hl ?ho ?hcd ?hc ?hg ?hlen ?hbind ?_
  case ho => k_is
  case hcd => k_is
  case hc => decide +kernel
  case hg => exact (fun _ h => nomatch h)
  case hlen => rfl
  case hbind => exact BindsTo.of_eq rfl
  intro env s' q1 q2 F G hA'
  simp only [l0, List.zip, List.zipWith, List.map, List.nil_append, List.cons_append] at F
  have hh := hA'.hd
  repeat k_all
  rename Fm _ _ _ _ _ _ _ _ _ => F; refine meth_ F hx (F.out.ok.sub _ _ hdx) (hM_ask w) rfl ?_
  repeat k_all
  rename Fm _ _ _ _ _ _ _ _ _ => F; refine nlR_ F ?_ (Nat.le_of_ble_eq_true rfl); clear F; intro p s_p hR_p F hn_p
  repeat k_all
  rename Fm _ _ _ _ _ _ _ _ _ => F
  refine ask_ hA' F.out.ok (F.front (l2 := [])) (hN.mono (Le.put hR_p)) hnl (hH'.mono (Le.put hR_p)) (hL.mono (Le.put hR_p)) hC (h1R.trans (Le.put hR_p)) Imm.put_self (.cons (hp0.mono (Le.put hR_p)) (.cons (hp1.mono (Le.put hR_p)) (.cons (hp2.mono (Le.put hR_p)) (.nil)))) hS ?_
  intro v s4 R' nvs' kn' P4 le4 hN4 hv4
  have F4 := F.after1 P4
  clear F
  repeat k_all
  rename Fm _ _ _ _ _ _ _ _ _ => F
  exact h _ _ _ _ _ F.post ((Le.put hR_p).trans le4) hN4 hv4
theorem h_cursor {v0 : Value} {p0 : Part} {Q : Value → Shared → Prop} (hA : Rm 5 A) (O : Ok (hd.heap_1 w.params) R s) (hl : Led R [(th, listOf nvs.toArray kn)] s) (hN : NotesR R nvs ns) (hnl : ns.length ≤ 90000)
    (hH : HookR R hk lam) (hL : FnR R lam) (hC : AskC prog w R1 lam th) (h1R : Le R1 R) (hp0 : PartR R v0 p0) (hS : SaidOk (Str.ofString "cursor") [p0])
    (h : ∀ v s' R' nvs' kn', Post (hd.heap_1 w.params) s [th] R R' [(th, listOf nvs'.toArray kn')] s' → Le R R' → NotesR R' nvs' (ns ++ [((Str.ofString "cursor"), [p0])]) → AnsV v (ans (Str.ofString "cursor") [p0]) → Q v s') :
    wpAny (model prog w) A (call (.ref 175) [.ref hk, v0]) Q E s := by
  have hH' := hH
  obtain ⟨dx, h1, t1, h2, t2, h3, t3, lv, nv, n, hx, hdx⟩ := hH
  refine' enter_ (n := 4) ["self", "ref"] [] [] hA O hl ?ho ?hcd ?hc ?hg ?hlen ?hbind ?_
  case ho => k_is
  case hcd => k_is
  case hc => decide +kernel
  case hg => exact (fun _ h => nomatch h)
  case hlen => rfl
  case hbind => exact BindsTo.of_eq rfl
  intro env s' q1 q2 F G hA'
  simp only [l0, List.zip, List.zipWith, List.map, List.nil_append, List.cons_append] at F
  have hh := hA'.hd
  repeat k_all
  rename Fm _ _ _ _ _ _ _ _ _ => F; refine meth_ F hx (F.out.ok.sub _ _ hdx) (hM_ask w) rfl ?_
  repeat k_all
  rename Fm _ _ _ _ _ _ _ _ _ => F; refine nlR_ F ?_ (Nat.le_of_ble_eq_true rfl); clear F; intro p s_p hR_p F hn_p
  repeat k_all
  rename Fm _ _ _ _ _ _ _ _ _ => F
  refine ask_ hA' F.out.ok (F.front (l2 := [])) (hN.mono (Le.put hR_p)) hnl (hH'.mono (Le.put hR_p)) (hL.mono (Le.put hR_p)) hC (h1R.trans (Le.put hR_p)) Imm.put_self (.cons (hp0.mono (Le.put hR_p)) (.nil)) hS ?_
  intro v s4 R' nvs' kn' P4 le4 hN4 hv4
  have F4 := F.after1 P4
  clear F
  repeat k_all
  rename Fm _ _ _ _ _ _ _ _ _ => F
  exact h _ _ _ _ _ F.post ((Le.put hR_p).trans le4) hN4 hv4
theorem h_matched {v0 : Value} {p0 : Part} {v1 : Value} {p1 : Part} {Q : Value → Shared → Prop} (hA : Rm 5 A) (O : Ok (hd.heap_1 w.params) R s) (hl : Led R [(th, listOf nvs.toArray kn)] s) (hN : NotesR R nvs ns) (hnl : ns.length ≤ 90000)
    (hH : HookR R hk lam) (hL : FnR R lam) (hC : AskC prog w R1 lam th) (h1R : Le R1 R) (hp0 : PartR R v0 p0) (hp1 : PartR R v1 p1) (hS : SaidOk (Str.ofString "match") [p0, p1])
    (h : ∀ v s' R' nvs' kn', Post (hd.heap_1 w.params) s [th] R R' [(th, listOf nvs'.toArray kn')] s' → Le R R' → NotesR R' nvs' (ns ++ [((Str.ofString "match"), [p0, p1])]) → AnsV v (ans (Str.ofString "match") [p0, p1]) → Q v s') :
    wpAny (model prog w) A (call (.ref 182) [.ref hk, v0, v1]) Q E s := by
  have hH' := hH
  obtain ⟨dx, h1, t1, h2, t2, h3, t3, lv, nv, n, hx, hdx⟩ := hH
  refine' enter_ (n := 4) ["self", "subject", "pattern"] [] [] hA O hl ?ho ?hcd ?hc ?hg ?hlen ?hbind ?_
  case ho => k_is
  case hcd => k_is
  case hc => decide +kernel
  case hg => exact (fun _ h => nomatch h)
  case hlen => rfl
  case hbind => exact BindsTo.of_eq rfl
  intro env s' q1 q2 F G hA'
  simp only [l0, List.zip, List.zipWith, List.map, List.nil_append, List.cons_append] at F
  have hh := hA'.hd
  repeat k_all
  rename Fm _ _ _ _ _ _ _ _ _ => F; refine meth_ F hx (F.out.ok.sub _ _ hdx) (hM_ask w) rfl ?_
  repeat k_all
  rename Fm _ _ _ _ _ _ _ _ _ => F; refine nlR_ F ?_ (Nat.le_of_ble_eq_true rfl); clear F; intro p s_p hR_p F hn_p
  repeat k_all
  rename Fm _ _ _ _ _ _ _ _ _ => F
  refine ask_ hA' F.out.ok (F.front (l2 := [])) (hN.mono (Le.put hR_p)) hnl (hH'.mono (Le.put hR_p)) (hL.mono (Le.put hR_p)) hC (h1R.trans (Le.put hR_p)) Imm.put_self (.cons (hp0.mono (Le.put hR_p)) (.cons (hp1.mono (Le.put hR_p)) (.nil))) hS ?_
  intro v s4 R' nvs' kn' P4 le4 hN4 hv4
  have F4 := F.after1 P4
  clear F
  repeat k_all
  rename Fm _ _ _ _ _ _ _ _ _ => F
  exact h _ _ _ _ _ F.post ((Le.put hR_p).trans le4) hN4 hv4
theorem h_assign {v0 : Value} {p0 : Part} {v1 : Value} {p1 : Part} {Q : Value → Shared → Prop} (hA : Rm 5 A) (O : Ok (hd.heap_1 w.params) R s) (hl : Led R [(th, listOf nvs.toArray kn)] s) (hN : NotesR R nvs ns) (hnl : ns.length ≤ 90000)
    (hH : HookR R hk lam) (hL : FnR R lam) (hC : AskC prog w R1 lam th) (h1R : Le R1 R) (hp0 : PartR R v0 p0) (hp1 : PartR R v1 p1) (hS : SaidOk (Str.ofString "assign") [p0, p1])
    (h : ∀ v s' R' nvs' kn', Post (hd.heap_1 w.params) s [th] R R' [(th, listOf nvs'.toArray kn')] s' → Le R R' → NotesR R' nvs' (ns ++ [((Str.ofString "assign"), [p0, p1])]) → v = .none → Q v s') :
    wpAny (model prog w) A (call (.ref 189) [.ref hk, v0, v1]) Q E s := by
  have hH' := hH
  obtain ⟨dx, h1, t1, h2, t2, h3, t3, lv, nv, n, hx, hdx⟩ := hH
  refine' enter_ (n := 4) ["self", "ref", "value"] [] [] hA O hl ?ho ?hcd ?hc ?hg ?hlen ?hbind ?_
  case ho => k_is
  case hcd => k_is
  case hc => decide +kernel
  case hg => exact (fun _ h => nomatch h)
  case hlen => rfl
  case hbind => exact BindsTo.of_eq rfl
  intro env s' q1 q2 F G hA'
  simp only [l0, List.zip, List.zipWith, List.map, List.nil_append, List.cons_append] at F
  have hh := hA'.hd
  repeat k_all
  rename Fm _ _ _ _ _ _ _ _ _ => F; refine ex_ F ?_ (by with_unfolding_all rfl)
  repeat k_all
  rename Fm _ _ _ _ _ _ _ _ _ => F; refine meth_ F hx (F.out.ok.sub _ _ hdx) (hM_ask w) rfl ?_
  repeat k_all
  rename Fm _ _ _ _ _ _ _ _ _ => F; refine nlR_ F ?_ (Nat.le_of_ble_eq_true rfl); clear F; intro p s_p hR_p F hn_p
  repeat k_all
  rename Fm _ _ _ _ _ _ _ _ _ => F
  refine ask_ hA' F.out.ok (F.front (l2 := [])) (hN.mono (Le.put hR_p)) hnl (hH'.mono (Le.put hR_p)) (hL.mono (Le.put hR_p)) hC (h1R.trans (Le.put hR_p)) Imm.put_self (.cons (hp0.mono (Le.put hR_p)) (.cons (hp1.mono (Le.put hR_p)) (.nil))) hS ?_
  intro v s4 R' nvs' kn' P4 le4 hN4 hv4
  have F4 := F.after1 P4
  clear F
  repeat k_all
  rename Fm _ _ _ _ _ _ _ _ _ => F
  exact h _ _ _ _ _ F.post ((Le.put hR_p).trans le4) hN4 rfl
theorem h_replace {v0 : Value} {p0 : Part} {v1 : Value} {p1 : Part} {v2 : Value} {p2 : Part} {Q : Value → Shared → Prop} (hA : Rm 5 A) (O : Ok (hd.heap_1 w.params) R s) (hl : Led R [(th, listOf nvs.toArray kn)] s) (hN : NotesR R nvs ns) (hnl : ns.length ≤ 90000)
    (hH : HookR R hk lam) (hL : FnR R lam) (hC : AskC prog w R1 lam th) (h1R : Le R1 R) (hp0 : PartR R v0 p0) (hp1 : PartR R v1 p1) (hp2 : PartR R v2 p2) (hS : SaidOk (Str.ofString "replace") [p0, p1, p2])
    (h : ∀ v s' R' nvs' kn', Post (hd.heap_1 w.params) s [th] R R' [(th, listOf nvs'.toArray kn')] s' → Le R R' → NotesR R' nvs' (ns ++ [((Str.ofString "replace"), [p0, p1, p2])]) → v = .none → Q v s') :
    wpAny (model prog w) A (call (.ref 196) [.ref hk, v0, v1, v2]) Q E s := by
  have hH' := hH
  obtain ⟨dx, h1, t1, h2, t2, h3, t3, lv, nv, n, hx, hdx⟩ := hH
  refine' enter_ (n := 4) ["self", "ref", "found", "value"] [] [] hA O hl ?ho ?hcd ?hc ?hg ?hlen ?hbind ?_
  case ho => k_is
  case hcd => k_is
  case hc => decide +kernel
  case hg => exact (fun _ h => nomatch h)
  case hlen => rfl
  case hbind => exact BindsTo.of_eq rfl
  intro env s' q1 q2 F G hA'
  simp only [l0, List.zip, List.zipWith, List.map, List.nil_append, List.cons_append] at F
  have hh := hA'.hd
  repeat k_all
  rename Fm _ _ _ _ _ _ _ _ _ => F; refine ex_ F ?_ (by with_unfolding_all rfl)
  repeat k_all
  rename Fm _ _ _ _ _ _ _ _ _ => F; refine meth_ F hx (F.out.ok.sub _ _ hdx) (hM_ask w) rfl ?_
  repeat k_all
  rename Fm _ _ _ _ _ _ _ _ _ => F; refine nlR_ F ?_ (Nat.le_of_ble_eq_true rfl); clear F; intro p s_p hR_p F hn_p
  repeat k_all
  rename Fm _ _ _ _ _ _ _ _ _ => F
  refine ask_ hA' F.out.ok (F.front (l2 := [])) (hN.mono (Le.put hR_p)) hnl (hH'.mono (Le.put hR_p)) (hL.mono (Le.put hR_p)) hC (h1R.trans (Le.put hR_p)) Imm.put_self (.cons (hp0.mono (Le.put hR_p)) (.cons (hp1.mono (Le.put hR_p)) (.cons (hp2.mono (Le.put hR_p)) (.nil)))) hS ?_
  intro v s4 R' nvs' kn' P4 le4 hN4 hv4
  have F4 := F.after1 P4
  clear F
  repeat k_all
  rename Fm _ _ _ _ _ _ _ _ _ => F
  exact h _ _ _ _ _ F.post ((Le.put hR_p).trans le4) hN4 rfl
end

-- LO
theorem hM_var (w : World) : MethsK (hd.heap_1 w.params) 227 "var_value" 112 := ⟨by k_is, by k_is, by k_is⟩
theorem hM_nameof (w : World) : MethsK (hd.heap_1 w.params) 227 "name_of" 119 := ⟨by k_is, by k_is, by k_is⟩
theorem hM_namedby (w : World) : MethsK (hd.heap_1 w.params) 227 "named_by" 126 := ⟨by k_is, by k_is, by k_is⟩
theorem hM_refvalue (w : World) : MethsK (hd.heap_1 w.params) 227 "ref_value" 133 := ⟨by k_is, by k_is, by k_is⟩
theorem hM_called (w : World) : MethsK (hd.heap_1 w.params) 227 "called" 140 := ⟨by k_is, by k_is, by k_is⟩
theorem hM_itemof (w : World) : MethsK (hd.heap_1 w.params) 227 "item_of" 147 := ⟨by k_is, by k_is, by k_is⟩
theorem hM_operated (w : World) : MethsK (hd.heap_1 w.params) 227 "operated" 154 := ⟨by k_is, by k_is, by k_is⟩
theorem hM_delayed (w : World) : MethsK (hd.heap_1 w.params) 227 "delayed" 161 := ⟨by k_is, by k_is, by k_is⟩
theorem hM_givenpart (w : World) : MethsK (hd.heap_1 w.params) 227 "given_part" 168 := ⟨by k_is, by k_is, by k_is⟩
theorem hM_cursor (w : World) : MethsK (hd.heap_1 w.params) 227 "cursor" 175 := ⟨by k_is, by k_is, by k_is⟩
theorem hM_matched (w : World) : MethsK (hd.heap_1 w.params) 227 "matched" 182 := ⟨by k_is, by k_is, by k_is⟩
theorem hM_assign (w : World) : MethsK (hd.heap_1 w.params) 227 "assign" 189 := ⟨by k_is, by k_is, by k_is⟩
theorem hM_replace (w : World) : MethsK (hd.heap_1 w.params) 227 "replace" 196 := ⟨by k_is, by k_is, by k_is⟩

structure HK (prog : Program) (w : World) (R1 R : Imm) (hk lam th : Addr) : Prop where
  H : HookR R hk lam
  L : FnR R lam
  C : AskC prog w R1 lam th
  le : Le R1 R
theorem HK.mono {prog : Program} {w : World} {R1 R R' : Imm} {hk lam th : Addr} (k : Le R R') (h : HK prog w R1 R hk lam th) : HK prog w R1 R' hk lam th := ⟨h.H.mono k, h.L.mono k, h.C, h.le.trans k⟩

noncomputable def StK (w : World) (s : Shared) (S : List Addr) (R : Imm) (dx th : Addr) (gv fo go : Value) (Q : Value → Shared → Prop) (r : Option (List Str)) (b : List Str) (ns' : List Note) : Prop :=
  ∀ s' R' od' sb vs' n' nvs' kn', Post (hd.heap_1 w.params) s S R R' [(dx, od'), (sb, listOf vs'.toArray n'), (th, listOf nvs'.toArray kn')] s' → Le R R' → WorkD od' (.ref sb) gv fo go → StrsAre vs' (r.getD b) → NotesR R' nvs' ns' → Q (.bool r.isSome) s'

section
variable {prog : Program} {w : World} {K : Frag} {env : Env} {se s s' : Shared} {S S₀ : List Addr} {R₀ R R' : Imm} {l l' : List (Str × Option Value)} {led led' l1 l1' l2 : Ledger} {A : Around} {E : Value → Shared → Prop}
theorem wmeth_ {x dx f : Addr} {od : Obj} {sv gv fo go : Value} {name : Str} {pl : Sem Bool} {Q : Value × List Value → Shared → Prop} (F : Fm K env se S R₀ R l led s) (hx : R x = some (instObj 80 dx)) (hw : WorkD od sv gv fo go) (hm : InL dx od led)
    (G : MethsK K 80 name f) (hl : ∀ h1 t1 h2 t2 h3 t3 h4 t4, getL name (wkEs h1 t1 h2 t2 h3 t3 h4 t4 sv gv fo go) = some none) (h : Q (.ref f, [.ref x]) s) : wpAny (model prog w) A (getMethod (.ref x) name pl) Q E s := by
  obtain ⟨h1, t1, h2, t2, h3, t3, h4, t4, n, rfl⟩ := hw
  exact meth_ F hx (F.lgr.here _ hm.mem) G (hl ..) h
theorem wattr_ {x dx : Addr} {od : Obj} {sv gv fo go v : Value} {name : Str} {expr : Bool} {Q : Value → Shared → Prop} (F : Fm K env se S R₀ R l led s) (hx : R x = some (instObj 80 dx)) (hw : WorkD od sv gv fo go) (hm : InL dx od led)
    (G : GetsK K 80 name) (hl : ∀ h1 t1 h2 t2 h3 t3 h4 t4, getL name (wkEs h1 t1 h2 t2 h3 t3 h4 t4 sv gv fo go) = some (some v)) (hv : handedIn v = true) (h : ∀ s', Fm K env se S R₀ R l led s' → Q v s') : wpAny (model prog w) A (getAttr (.ref x) name expr) Q E s := by
  obtain ⟨h1, t1, h2, t2, h3, t3, h4, t4, n, rfl⟩ := hw
  exact attr_ F hx (F.lgr.here _ hm.mem) G (hl ..) hv h
theorem hmeth_ {hk lam th f : Addr} {R1 : Imm} {name : Str} {pl : Sem Bool} {Q : Value × List Value → Shared → Prop} (F : Fm K env se S R₀ R l led s) (H : HK prog w R1 R hk lam th)
    (G : MethsK K 227 name f) (hl : ∀ h1 t1 h2 t2 h3 t3 lv nv, getL name [⟨h1, .str "replies" t1, .ref lam⟩, ⟨h2, .str "labels" t2, lv⟩, ⟨h3, .str "notes" t3, nv⟩] = some none) (h : Q (.ref f, [.ref hk]) s) : wpAny (model prog w) A (getMethod (.ref hk) name pl) Q E s := by
  obtain ⟨dx, h1, t1, h2, t2, h3, t3, lv, nv, n, hx, hdx⟩ := H.H
  exact meth_ F hx (F.out.ok.sub _ _ hdx) G (hl ..) h
end

-- LOa
section
variable {prog : Program} {w : World} {s : Shared} {R R1 : Imm} {A : Around} {E : Value → Shared → Prop} {hk lam th x dx sa ga oa : Addr} {nvs vs ovs : List Value} {n k kn : Nat} {ns : List Note} {st : List Str} {od : Obj} {fo go : Value} {Q : Value → Shared → Prop}

theorem order_push {y : Str} (hA : Rm 8 A) (O : Ok (hd.heap_1 w.params) R s) (hl : Led R [(dx, od), (sa, listOf vs.toArray n), (th, listOf nvs.toArray kn)] s) (hx : R x = some (instObj 80 dx)) (hw : WorkD od (.ref sa) (.ref ga) fo go) (H : HK prog w R1 R hk lam th)
    (hN : NotesR R nvs ns) (hnl : ns.length ≤ 90000) (hst : StrsAre vs st) (hz : st.length ≤ 1000) (ho : R oa = some (tupOf ovs.toArray k)) (hlt : LitsAre ovs (Sim.lits (.push y))) (hneed : (.push y : Sim).need ≤ st.length)
    (h : StK w s [dx, sa, th] R dx th (.ref ga) fo go Q (step (.push y) st ns).1 (base (.push y) st) (step (.push y) st ns).2) :
    wpAny (model prog w) A (call (.ref 245) [.ref x, .ref oa, .ref hk]) Q E s := by
  rcases hlt with _ | hlt | hlt | hlt
  rcases hlt with _ | hlt | hlt | hlt
  cases hlt
  refine' enter_ (n := 7) ["work", "order", "hooks"] ["word", "keys"] [("do_part", .ref 252), ("do_deed", .ref 259), ("do_other", .ref 266)] hA O hl ?ho ?hcd ?hc ?hg ?hlen ?hbind ?_
  case ho => k_is
  case hcd => k_is
  case hc => decide +kernel
  case hg => exact (List.forall_mem_cons.mpr ⟨gl_do_part w, (List.forall_mem_cons.mpr ⟨gl_do_deed w, (List.forall_mem_cons.mpr ⟨gl_do_other w, (fun _ h => nomatch h)⟩)⟩)⟩)
  case hlen => rfl
  case hbind => exact BindsTo.of_eq rfl
  intro env s' q1 q2 F G hA'
  simp only [l0, List.zip, List.zipWith, List.map, List.nil_append, List.cons_append] at F
  have hh := hA'.hd
  repeat k_all
  rename Fm _ _ _ _ _ _ _ _ _ => F; refine itemT_ (F.tupR ho) (by decide) rfl (Nat.le_of_ble_eq_true rfl) ?_
  repeat k_all
  rename Fm _ _ _ _ _ _ _ _ _ => F; refine wmeth_ F hx hw .head (wM_push w) (by intros; rfl) ?_
  repeat k_all
  rename Fm _ _ _ _ _ _ _ _ _ => F; refine itemT_ (F.tupR ho) (by decide) rfl (Nat.le_of_ble_eq_true rfl) ?_
  repeat k_all
  rename Fm _ _ _ _ _ _ _ _ _ => F
  refine push_s (hA'.le (by decide)) F.out.ok (F.front (l1 := [_, _])) hx hw (by rw [StrsAre.length' hst]; exact hz) ?_
  intro s5 n5 P5
  have F5 := F.after2 P5
  clear F
  repeat k_all
  rename Fm _ _ _ _ _ _ _ _ _ => F
  exact h _ _ _ _ _ _ _ _ F.post Le.refl hw (StrsAre.snoc' hst) hN

theorem order_var {y : Str} (hA : Rm 8 A) (O : Ok (hd.heap_1 w.params) R s) (hl : Led R [(dx, od), (sa, listOf vs.toArray n), (th, listOf nvs.toArray kn)] s) (hx : R x = some (instObj 80 dx)) (hw : WorkD od (.ref sa) (.ref ga) fo go) (H : HK prog w R1 R hk lam th)
    (hN : NotesR R nvs ns) (hnl : ns.length ≤ 90000) (hst : StrsAre vs st) (hz : st.length ≤ 1000) (ho : R oa = some (tupOf ovs.toArray k)) (hlt : LitsAre ovs (Sim.lits (.var y))) (hneed : (.var y : Sim).need ≤ st.length) (hS : SaidOk ((.var y : Sim).asks (under (.var y) st)).1 ((.var y : Sim).asks (under (.var y) st)).2)
    (h : StK w s [dx, sa, th] R dx th (.ref ga) fo go Q (step (.var y) st ns).1 (base (.var y) st) (step (.var y) st ns).2) :
    wpAny (model prog w) A (call (.ref 245) [.ref x, .ref oa, .ref hk]) Q E s := by
  rcases hlt with _ | hlt | hlt | hlt
  rcases hlt with _ | hlt | hlt | hlt
  cases hlt
  have hb : StrsAre vs (base (.var y) st) := by rw [show base (.var y) st = st by simp [base, Sim.many]]; exact hst
  replace hS : SaidOk _ _ := hS
  refine' enter_ (n := 7) ["work", "order", "hooks"] ["word", "keys"] [("do_part", .ref 252), ("do_deed", .ref 259), ("do_other", .ref 266)] hA O hl ?ho ?hcd ?hc ?hg ?hlen ?hbind ?_
  case ho => k_is
  case hcd => k_is
  case hc => decide +kernel
  case hg => exact (List.forall_mem_cons.mpr ⟨gl_do_part w, (List.forall_mem_cons.mpr ⟨gl_do_deed w, (List.forall_mem_cons.mpr ⟨gl_do_other w, (fun _ h => nomatch h)⟩)⟩)⟩)
  case hlen => rfl
  case hbind => exact BindsTo.of_eq rfl
  intro env s' q1 q2 F G hA'
  simp only [l0, List.zip, List.zipWith, List.map, List.nil_append, List.cons_append] at F
  have hh := hA'.hd
  repeat k_all
  rename Fm _ _ _ _ _ _ _ _ _ => F; refine itemT_ (F.tupR ho) (by decide) rfl (Nat.le_of_ble_eq_true rfl) ?_
  repeat k_all
  rename Fm _ _ _ _ _ _ _ _ _ => F; refine wmeth_ F hx hw .head (wM_push w) (by intros; rfl) ?_
  repeat k_all
  rename Fm _ _ _ _ _ _ _ _ _ => F; refine hmeth_ F H (hM_var w) (by intros; rfl) ?_
  repeat k_all
  rename Fm _ _ _ _ _ _ _ _ _ => F; refine itemT_ (F.tupR ho) (by decide) rfl (Nat.le_of_ble_eq_true rfl) ?_
  repeat k_all
  rename Fm _ _ _ _ _ _ _ _ _ => F
  have F := F.rot3
  refine h_var (hA'.le (by decide)) F.out.ok (F.front (l1 := [_])) hN hnl H.H H.L H.C H.le PartR.s hS ?_
  intro v5 s5 R5 nvs5 kn5 P5 le5 hN hv5
  have F5 := (F.after1 P5).rot3'
  clear F
  have ho := le5 _ _ ho; have hx := le5 _ _ hx; have H := H.mono le5
  repeat k_all
  rename Fm _ _ _ _ _ _ _ _ _ => F
  refine push_r (r := said _ _) (hA'.le (by decide)) F.out.ok (F.front (l1 := [_, _])) hx hw hb (by rw [StrsAre.length' hb]; exact Nat.le_trans (by simp [base]) hz) (AnsV.of (by decide) hv5) ?_
  intro s9 vs9 n9 P9 hst9
  have F9 := F.after2 P9
  clear F
  repeat k_all
  rename Fm _ _ _ _ _ _ _ _ _ => F
  exact h _ _ _ _ _ _ _ _ F.post (le5) hw hst9 hN

theorem order_ref {y : Str} (hA : Rm 8 A) (O : Ok (hd.heap_1 w.params) R s) (hl : Led R [(dx, od), (sa, listOf vs.toArray n), (th, listOf nvs.toArray kn)] s) (hx : R x = some (instObj 80 dx)) (hw : WorkD od (.ref sa) (.ref ga) fo go) (H : HK prog w R1 R hk lam th)
    (hN : NotesR R nvs ns) (hnl : ns.length ≤ 90000) (hst : StrsAre vs st) (hz : st.length ≤ 1000) (ho : R oa = some (tupOf ovs.toArray k)) (hlt : LitsAre ovs (Sim.lits (.ref y))) (hneed : (.ref y : Sim).need ≤ st.length) (hS : SaidOk ((.ref y : Sim).asks (under (.ref y) st)).1 ((.ref y : Sim).asks (under (.ref y) st)).2)
    (h : StK w s [dx, sa, th] R dx th (.ref ga) fo go Q (step (.ref y) st ns).1 (base (.ref y) st) (step (.ref y) st ns).2) :
    wpAny (model prog w) A (call (.ref 245) [.ref x, .ref oa, .ref hk]) Q E s := by
  rcases hlt with _ | hlt | hlt | hlt
  rcases hlt with _ | hlt | hlt | hlt
  cases hlt
  have hb : StrsAre vs (base (.ref y) st) := by rw [show base (.ref y) st = st by simp [base, Sim.many]]; exact hst
  replace hS : SaidOk _ _ := hS
  refine' enter_ (n := 7) ["work", "order", "hooks"] ["word", "keys"] [("do_part", .ref 252), ("do_deed", .ref 259), ("do_other", .ref 266)] hA O hl ?ho ?hcd ?hc ?hg ?hlen ?hbind ?_
  case ho => k_is
  case hcd => k_is
  case hc => decide +kernel
  case hg => exact (List.forall_mem_cons.mpr ⟨gl_do_part w, (List.forall_mem_cons.mpr ⟨gl_do_deed w, (List.forall_mem_cons.mpr ⟨gl_do_other w, (fun _ h => nomatch h)⟩)⟩)⟩)
  case hlen => rfl
  case hbind => exact BindsTo.of_eq rfl
  intro env s' q1 q2 F G hA'
  simp only [l0, List.zip, List.zipWith, List.map, List.nil_append, List.cons_append] at F
  have hh := hA'.hd
  repeat k_all
  rename Fm _ _ _ _ _ _ _ _ _ => F; refine itemT_ (F.tupR ho) (by decide) rfl (Nat.le_of_ble_eq_true rfl) ?_
  repeat k_all
  rename Fm _ _ _ _ _ _ _ _ _ => F; refine wmeth_ F hx hw .head (wM_push w) (by intros; rfl) ?_
  repeat k_all
  rename Fm _ _ _ _ _ _ _ _ _ => F; refine hmeth_ F H (hM_nameof w) (by intros; rfl) ?_
  repeat k_all
  rename Fm _ _ _ _ _ _ _ _ _ => F; refine itemT_ (F.tupR ho) (by decide) rfl (Nat.le_of_ble_eq_true rfl) ?_
  repeat k_all
  rename Fm _ _ _ _ _ _ _ _ _ => F
  have F := F.rot3
  refine h_nameof (hA'.le (by decide)) F.out.ok (F.front (l1 := [_])) hN hnl H.H H.L H.C H.le PartR.s hS ?_
  intro v5 s5 R5 nvs5 kn5 P5 le5 hN hv5
  have F5 := (F.after1 P5).rot3'
  clear F
  have ho := le5 _ _ ho; have hx := le5 _ _ hx; have H := H.mono le5
  repeat k_all
  rename Fm _ _ _ _ _ _ _ _ _ => F
  refine push_r (r := said _ _) (hA'.le (by decide)) F.out.ok (F.front (l1 := [_, _])) hx hw hb (by rw [StrsAre.length' hb]; exact Nat.le_trans (by simp [base]) hz) (AnsV.of (by decide) hv5) ?_
  intro s9 vs9 n9 P9 hst9
  have F9 := F.after2 P9
  clear F
  repeat k_all
  rename Fm _ _ _ _ _ _ _ _ _ => F
  exact h _ _ _ _ _ _ _ _ F.post (le5) hw hst9 hN

theorem order_kw {y : Str} (hA : Rm 8 A) (O : Ok (hd.heap_1 w.params) R s) (hl : Led R [(dx, od), (sa, listOf vs.toArray n), (th, listOf nvs.toArray kn)] s) (hx : R x = some (instObj 80 dx)) (hw : WorkD od (.ref sa) (.ref ga) fo go) (H : HK prog w R1 R hk lam th)
    (hN : NotesR R nvs ns) (hnl : ns.length ≤ 90000) (hst : StrsAre vs st) (hz : st.length ≤ 1000) (ho : R oa = some (tupOf ovs.toArray k)) (hlt : LitsAre ovs (Sim.lits (.kw y))) (hneed : (.kw y : Sim).need ≤ st.length) (hS : SaidOk ((.kw y : Sim).asks (under (.kw y) st)).1 ((.kw y : Sim).asks (under (.kw y) st)).2)
    (h : StK w s [dx, sa, th] R dx th (.ref ga) fo go Q (step (.kw y) st ns).1 (base (.kw y) st) (step (.kw y) st ns).2) :
    wpAny (model prog w) A (call (.ref 245) [.ref x, .ref oa, .ref hk]) Q E s := by
  rcases hlt with _ | hlt | hlt | hlt
  rcases hlt with _ | hlt | hlt | hlt
  cases hlt
  have hb : StrsAre vs (base (.kw y) st) := by rw [show base (.kw y) st = st by simp [base, Sim.many]]; exact hst
  replace hS : SaidOk _ _ := hS
  refine' enter_ (n := 7) ["work", "order", "hooks"] ["word", "keys"] [("do_part", .ref 252), ("do_deed", .ref 259), ("do_other", .ref 266)] hA O hl ?ho ?hcd ?hc ?hg ?hlen ?hbind ?_
  case ho => k_is
  case hcd => k_is
  case hc => decide +kernel
  case hg => exact (List.forall_mem_cons.mpr ⟨gl_do_part w, (List.forall_mem_cons.mpr ⟨gl_do_deed w, (List.forall_mem_cons.mpr ⟨gl_do_other w, (fun _ h => nomatch h)⟩)⟩)⟩)
  case hlen => rfl
  case hbind => exact BindsTo.of_eq rfl
  intro env s' q1 q2 F G hA'
  simp only [l0, List.zip, List.zipWith, List.map, List.nil_append, List.cons_append] at F
  have hh := hA'.hd
  repeat k_all
  rename Fm _ _ _ _ _ _ _ _ _ => F; refine itemT_ (F.tupR ho) (by decide) rfl (Nat.le_of_ble_eq_true rfl) ?_
  repeat k_all
  rename Fm _ _ _ _ _ _ _ _ _ => F; refine wmeth_ F hx hw .head (wM_push w) (by intros; rfl) ?_
  repeat k_all
  rename Fm _ _ _ _ _ _ _ _ _ => F; refine hmeth_ F H (hM_nameof w) (by intros; rfl) ?_
  repeat k_all
  rename Fm _ _ _ _ _ _ _ _ _ => F; refine itemT_ (F.tupR ho) (by decide) rfl (Nat.le_of_ble_eq_true rfl) ?_
  repeat k_all
  rename Fm _ _ _ _ _ _ _ _ _ => F
  have F := F.rot3
  refine h_nameof (hA'.le (by decide)) F.out.ok (F.front (l1 := [_])) hN hnl H.H H.L H.C H.le PartR.s hS ?_
  intro v5 s5 R5 nvs5 kn5 P5 le5 hN hv5
  have F5 := (F.after1 P5).rot3'
  clear F
  have ho := le5 _ _ ho; have hx := le5 _ _ hx; have H := H.mono le5
  repeat k_all
  rename Fm _ _ _ _ _ _ _ _ _ => F
  refine push_r (r := said _ _) (hA'.le (by decide)) F.out.ok (F.front (l1 := [_, _])) hx hw hb (by rw [StrsAre.length' hb]; exact Nat.le_trans (by simp [base]) hz) (AnsV.of (by decide) hv5) ?_
  intro s9 vs9 n9 P9 hst9
  have F9 := F.after2 P9
  clear F
  repeat k_all
  rename Fm _ _ _ _ _ _ _ _ _ => F
  exact h _ _ _ _ _ _ _ _ F.post (le5) hw hst9 hN

theorem order_value  (hA : Rm 8 A) (O : Ok (hd.heap_1 w.params) R s) (hl : Led R [(dx, od), (sa, listOf vs.toArray n), (th, listOf nvs.toArray kn)] s) (hx : R x = some (instObj 80 dx)) (hw : WorkD od (.ref sa) (.ref ga) fo go) (H : HK prog w R1 R hk lam th)
    (hN : NotesR R nvs ns) (hnl : ns.length ≤ 90000) (hst : StrsAre vs st) (hz : st.length ≤ 1000) (ho : R oa = some (tupOf ovs.toArray k)) (hlt : LitsAre ovs (Sim.lits (.value))) (hneed : (.value : Sim).need ≤ st.length) (hS : SaidOk ((.value : Sim).asks (under (.value) st)).1 ((.value : Sim).asks (under (.value) st)).2)
    (h : StK w s [dx, sa, th] R dx th (.ref ga) fo go Q (step (.value) st ns).1 (base (.value) st) (step (.value) st ns).2) :
    wpAny (model prog w) A (call (.ref 245) [.ref x, .ref oa, .ref hk]) Q E s := by
  rcases hlt with _ | hlt | hlt | hlt
  cases hlt
  have h0 : 0 < st.length := hneed
  have hu : under .value st = [st.getLastD ""] := drop_last1 h0
  have e1 : (.value : Sim).asks (under .value st) = ((Str.ofString "value", [Part.s (st.getLastD "")]) : Note) := by rw [hu]; rfl
  rw [e1] at hS
  rw [show step .value st ns = ((said ((.value : Sim).asks (under .value st)).1 ((.value : Sim).asks (under .value st)).2).map fun x => base .value st ++ [x], ns ++ [(.value : Sim).asks (under .value st)]) from rfl, e1] at h
  refine' enter_ (n := 7) ["work", "order", "hooks"] ["word", "keys"] [("do_part", .ref 252), ("do_deed", .ref 259), ("do_other", .ref 266)] hA O hl ?ho ?hcd ?hc ?hg ?hlen ?hbind ?_
  case ho => k_is
  case hcd => k_is
  case hc => decide +kernel
  case hg => exact (List.forall_mem_cons.mpr ⟨gl_do_part w, (List.forall_mem_cons.mpr ⟨gl_do_deed w, (List.forall_mem_cons.mpr ⟨gl_do_other w, (fun _ h => nomatch h)⟩)⟩)⟩)
  case hlen => rfl
  case hbind => exact BindsTo.of_eq rfl
  intro env s' q1 q2 F G hA'
  simp only [l0, List.zip, List.zipWith, List.map, List.nil_append, List.cons_append] at F
  have hh := hA'.hd
  repeat k_all
  rename Fm _ _ _ _ _ _ _ _ _ => F; refine itemT_ (F.tupR ho) (by decide) rfl (Nat.le_of_ble_eq_true rfl) ?_
  repeat k_all
  rename Fm _ _ _ _ _ _ _ _ _ => F; refine wmeth_ F hx hw .head (wM_push w) (by intros; rfl) ?_
  repeat k_all
  rename Fm _ _ _ _ _ _ _ _ _ => F; refine hmeth_ F H (hM_refvalue w) (by intros; rfl) ?_
  repeat k_all
  rename Fm _ _ _ _ _ _ _ _ _ => F; refine wmeth_ F hx hw .head (wM_pop w) (by intros; rfl) ?_
  repeat k_all
  rename Fm _ _ _ _ _ _ _ _ _ => F
  refine pop_r (hA'.le (by decide)) F.out.ok (F.front (l1 := [_, _])) hx hw hst hz h0 ?_
  intro s4 us4 n4 t4 P4 hb
  have F4 := F.after2 P4
  clear F
  repeat k_all
  rename Fm _ _ _ _ _ _ _ _ _ => F
  have F := F.rot3
  refine h_refvalue (hA'.le (by decide)) F.out.ok (F.front (l1 := [_])) hN hnl H.H H.L H.C H.le PartR.s hS ?_
  intro v5 s5 R5 nvs5 kn5 P5 le5 hN hv5
  have F5 := (F.after1 P5).rot3'
  clear F
  have ho := le5 _ _ ho; have hx := le5 _ _ hx; have H := H.mono le5
  repeat k_all
  rename Fm _ _ _ _ _ _ _ _ _ => F
  refine push_r (r := said _ _) (hA'.le (by decide)) F.out.ok (F.front (l1 := [_, _])) hx hw hb (by rw [StrsAre.length' hb]; exact Nat.le_trans (by simp [base]) hz) (AnsV.of (by decide) hv5) ?_
  intro s9 vs9 n9 P9 hst9
  have F9 := F.after2 P9
  clear F
  repeat k_all
  rename Fm _ _ _ _ _ _ _ _ _ => F
  exact h _ _ _ _ _ _ _ _ F.post (le5) hw hst9 hN

theorem order_indirect  (hA : Rm 8 A) (O : Ok (hd.heap_1 w.params) R s) (hl : Led R [(dx, od), (sa, listOf vs.toArray n), (th, listOf nvs.toArray kn)] s) (hx : R x = some (instObj 80 dx)) (hw : WorkD od (.ref sa) (.ref ga) fo go) (H : HK prog w R1 R hk lam th)
    (hN : NotesR R nvs ns) (hnl : ns.length ≤ 90000) (hst : StrsAre vs st) (hz : st.length ≤ 1000) (ho : R oa = some (tupOf ovs.toArray k)) (hlt : LitsAre ovs (Sim.lits (.indirect))) (hneed : (.indirect : Sim).need ≤ st.length) (hS : SaidOk ((.indirect : Sim).asks (under (.indirect) st)).1 ((.indirect : Sim).asks (under (.indirect) st)).2)
    (h : StK w s [dx, sa, th] R dx th (.ref ga) fo go Q (step (.indirect) st ns).1 (base (.indirect) st) (step (.indirect) st ns).2) :
    wpAny (model prog w) A (call (.ref 245) [.ref x, .ref oa, .ref hk]) Q E s := by
  rcases hlt with _ | hlt | hlt | hlt
  cases hlt
  have h0 : 0 < st.length := hneed
  have hu : under .indirect st = [st.getLastD ""] := drop_last1 h0
  have e1 : (.indirect : Sim).asks (under .indirect st) = ((Str.ofString "indirect", [Part.s (st.getLastD "")]) : Note) := by rw [hu]; rfl
  rw [e1] at hS
  rw [show step .indirect st ns = ((said ((.indirect : Sim).asks (under .indirect st)).1 ((.indirect : Sim).asks (under .indirect st)).2).map fun x => base .indirect st ++ [x], ns ++ [(.indirect : Sim).asks (under .indirect st)]) from rfl, e1] at h
  refine' enter_ (n := 7) ["work", "order", "hooks"] ["word", "keys"] [("do_part", .ref 252), ("do_deed", .ref 259), ("do_other", .ref 266)] hA O hl ?ho ?hcd ?hc ?hg ?hlen ?hbind ?_
  case ho => k_is
  case hcd => k_is
  case hc => decide +kernel
  case hg => exact (List.forall_mem_cons.mpr ⟨gl_do_part w, (List.forall_mem_cons.mpr ⟨gl_do_deed w, (List.forall_mem_cons.mpr ⟨gl_do_other w, (fun _ h => nomatch h)⟩)⟩)⟩)
  case hlen => rfl
  case hbind => exact BindsTo.of_eq rfl
  intro env s' q1 q2 F G hA'
  simp only [l0, List.zip, List.zipWith, List.map, List.nil_append, List.cons_append] at F
  have hh := hA'.hd
  repeat k_all
  rename Fm _ _ _ _ _ _ _ _ _ => F; refine itemT_ (F.tupR ho) (by decide) rfl (Nat.le_of_ble_eq_true rfl) ?_
  repeat k_all
  rename Fm _ _ _ _ _ _ _ _ _ => F; refine wmeth_ F hx hw .head (wM_push w) (by intros; rfl) ?_
  repeat k_all
  rename Fm _ _ _ _ _ _ _ _ _ => F; refine hmeth_ F H (hM_namedby w) (by intros; rfl) ?_
  repeat k_all
  rename Fm _ _ _ _ _ _ _ _ _ => F; refine wmeth_ F hx hw .head (wM_pop w) (by intros; rfl) ?_
  repeat k_all
  rename Fm _ _ _ _ _ _ _ _ _ => F
  refine pop_r (hA'.le (by decide)) F.out.ok (F.front (l1 := [_, _])) hx hw hst hz h0 ?_
  intro s4 us4 n4 t4 P4 hb
  have F4 := F.after2 P4
  clear F
  repeat k_all
  rename Fm _ _ _ _ _ _ _ _ _ => F
  have F := F.rot3
  refine h_namedby (hA'.le (by decide)) F.out.ok (F.front (l1 := [_])) hN hnl H.H H.L H.C H.le PartR.s hS ?_
  intro v5 s5 R5 nvs5 kn5 P5 le5 hN hv5
  have F5 := (F.after1 P5).rot3'
  clear F
  have ho := le5 _ _ ho; have hx := le5 _ _ hx; have H := H.mono le5
  repeat k_all
  rename Fm _ _ _ _ _ _ _ _ _ => F
  refine push_r (r := said _ _) (hA'.le (by decide)) F.out.ok (F.front (l1 := [_, _])) hx hw hb (by rw [StrsAre.length' hb]; exact Nat.le_trans (by simp [base]) hz) (AnsV.of (by decide) hv5) ?_
  intro s9 vs9 n9 P9 hst9
  have F9 := F.after2 P9
  clear F
  repeat k_all
  rename Fm _ _ _ _ _ _ _ _ _ => F
  exact h _ _ _ _ _ _ _ _ F.post (le5) hw hst9 hN
end

-- LOb
section
variable {prog : Program} {w : World} {s : Shared} {R R1 : Imm} {A : Around} {E : Value → Shared → Prop} {hk lam th x dx sa ga oa : Addr} {nvs vs ovs : List Value} {n k kn : Nat} {ns : List Note} {st : List Str} {od : Obj} {fo go : Value} {Q : Value → Shared → Prop}

theorem order_call {f : Str} {m : Nat} {c : Bool} (hA : Rm 8 A) (O : Ok (hd.heap_1 w.params) R s) (hl : Led R [(dx, od), (sa, listOf vs.toArray n), (th, listOf nvs.toArray kn)] s) (hx : R x = some (instObj 80 dx)) (hw : WorkD od (.ref sa) (.ref ga) fo go) (H : HK prog w R1 R hk lam th)
    (hN : NotesR R nvs ns) (hnl : ns.length ≤ 90000) (hst : StrsAre vs st) (hz : st.length ≤ 1000) (ho : R oa = some (tupOf ovs.toArray k)) (hlt : LitsAre ovs (Sim.lits (.call f m c))) (hneed : (.call f m c : Sim).need ≤ st.length) (hS : SaidOk ((.call f m c : Sim).asks (under (.call f m c) st)).1 ((.call f m c : Sim).asks (under (.call f m c) st)).2)
    (h : StK w s [dx, sa, th] R dx th (.ref ga) fo go Q (step (.call f m c) st ns).1 (base (.call f m c) st) (step (.call f m c) st ns).2) :
    wpAny (model prog w) A (call (.ref 245) [.ref x, .ref oa, .ref hk]) Q E s := by
  rcases hlt with _ | hlt | hlt | hlt
  rcases hlt with _ | hlt | hlt | hlt
  rcases hlt with _ | hlt | hlt | hlt
  rcases hlt with _ | hlt | hlt | hlt
  cases hlt
  refine' enter_ (n := 7) ["work", "order", "hooks"] ["word", "keys"] [("do_part", .ref 252), ("do_deed", .ref 259), ("do_other", .ref 266)] hA O hl ?ho ?hcd ?hc ?hg ?hlen ?hbind ?_
  case ho => k_is
  case hcd => k_is
  case hc => decide +kernel
  case hg => exact (List.forall_mem_cons.mpr ⟨gl_do_part w, (List.forall_mem_cons.mpr ⟨gl_do_deed w, (List.forall_mem_cons.mpr ⟨gl_do_other w, (fun _ h => nomatch h)⟩)⟩)⟩)
  case hlen => rfl
  case hbind => exact BindsTo.of_eq rfl
  intro env s' q1 q2 F G hA'
  simp only [l0, List.zip, List.zipWith, List.map, List.nil_append, List.cons_append] at F
  have hh := hA'.hd
  repeat k_all
  rename Fm _ _ _ _ _ _ _ _ _ => F; refine itemT_ (F.tupR ho) (by decide) rfl (Nat.le_of_ble_eq_true rfl) ?_
  repeat k_all
  rename Fm _ _ _ _ _ _ _ _ _ => F; refine wmeth_ F hx hw .head (wM_push w) (by intros; rfl) ?_
  repeat k_all
  rename Fm _ _ _ _ _ _ _ _ _ => F; refine hmeth_ F H (hM_called w) (by intros; rfl) ?_
  repeat k_all
  rename Fm _ _ _ _ _ _ _ _ _ => F; refine itemT_ (F.tupR ho) (by decide) rfl (Nat.le_of_ble_eq_true rfl) ?_
  repeat k_all
  rename Fm _ _ _ _ _ _ _ _ _ => F; refine wmeth_ F hx hw .head (wM_take w) (by intros; rfl) ?_
  repeat k_all
  rename Fm _ _ _ _ _ _ _ _ _ => F; refine itemT_ (F.tupR ho) (by decide) rfl (Nat.le_of_ble_eq_true rfl) ?_
  repeat k_all
  rename Fm _ _ _ _ _ _ _ _ _ => F
  refine take_r (many := m) (hA'.le (by decide)) F.out.ok (F.front (l1 := [_, _])) hx hw hst hz (by simpa [Sim.need, Sim.many] using hneed) ?_
  intro s4 od4 sb4 fa us4 ts4 hR_fa hw hb hts P4
  have F4 := F.after2 P4
  clear F
  have le4 := Le.put (o := listOf ts4.toArray 0) hR_fa
  have ho := le4 _ _ ho; have hx := le4 _ _ hx; have H := H.mono le4
  have hN := hN.mono le4
  repeat k_all
  rename Fm _ _ _ _ _ _ _ _ _ => F; refine itemT_ (F.tupR ho) (by decide) rfl (Nat.le_of_ble_eq_true rfl) ?_
  repeat k_all
  rename Fm _ _ _ _ _ _ _ _ _ => F
  have F := F.rot3
  refine h_called (hA'.le (by decide)) F.out.ok (F.front (l1 := [_])) hN hnl H.H H.L H.C H.le PartR.s (PartR.l (Imm.put_self) hts) PartR.b hS ?_
  intro v5 s5 R5 nvs5 kn5 P5 le5 hN hv5
  have F5 := (F.after1 P5).rot3'
  clear F
  have ho := le5 _ _ ho; have hx := le5 _ _ hx; have H := H.mono le5
  repeat k_all
  rename Fm _ _ _ _ _ _ _ _ _ => F
  refine push_r (r := said _ _) (hA'.le (by decide)) F.out.ok (F.front (l1 := [_, _])) hx hw hb (by rw [StrsAre.length' hb]; exact Nat.le_trans (by simp [base]) hz) (AnsV.of (by decide) hv5) ?_
  intro s9 vs9 n9 P9 hst9
  have F9 := F.after2 P9
  clear F
  repeat k_all
  rename Fm _ _ _ _ _ _ _ _ _ => F
  exact h _ _ _ _ _ _ _ _ F.post ((le4).trans le5) hw hst9 hN

theorem order_item {m : Nat} {c : Bool} (hA : Rm 8 A) (O : Ok (hd.heap_1 w.params) R s) (hl : Led R [(dx, od), (sa, listOf vs.toArray n), (th, listOf nvs.toArray kn)] s) (hx : R x = some (instObj 80 dx)) (hw : WorkD od (.ref sa) (.ref ga) fo go) (H : HK prog w R1 R hk lam th)
    (hN : NotesR R nvs ns) (hnl : ns.length ≤ 90000) (hst : StrsAre vs st) (hz : st.length ≤ 1000) (ho : R oa = some (tupOf ovs.toArray k)) (hlt : LitsAre ovs (Sim.lits (.item m c))) (hneed : (.item m c : Sim).need ≤ st.length) (hS : SaidOk ((.item m c : Sim).asks (under (.item m c) st)).1 ((.item m c : Sim).asks (under (.item m c) st)).2)
    (h : StK w s [dx, sa, th] R dx th (.ref ga) fo go Q (step (.item m c) st ns).1 (base (.item m c) st) (step (.item m c) st ns).2) :
    wpAny (model prog w) A (call (.ref 245) [.ref x, .ref oa, .ref hk]) Q E s := by
  rcases hlt with _ | hlt | hlt | hlt
  rcases hlt with _ | hlt | hlt | hlt
  rcases hlt with _ | hlt | hlt | hlt
  cases hlt
  have h0 : m + 1 ≤ st.length := hneed
  have e0 : (st.take (st.length - m)).length = st.length - m := by rw [List.length_take]; omega
  have hu : under (.item m c) st = (st.take (st.length - m)).getLastD "" :: st.drop (st.length - m) := by
    show st.drop (st.length - (m + 1)) = _
    have q := drop_last1 (st := st.take (st.length - m)) (by omega)
    rw [e0, List.drop_take, show st.length - m - (st.length - m - 1) = 1 by omega] at q
    have q2 : st.drop (st.length - (m + 1)) = (st.drop (st.length - (m + 1))).take 1 ++ (st.drop (st.length - (m + 1))).drop 1 := (List.take_append_drop 1 _).symm
    rw [show st.length - m - 1 = st.length - (m + 1) by omega] at q
    rw [q2, q, List.drop_drop, show st.length - (m + 1) + 1 = st.length - m by omega]; rfl
  have e1 : (.item m c : Sim).asks (under (.item m c) st) = ((Str.ofString "item", [Part.s ((st.take (st.length - m)).getLastD ""), Part.l (st.drop (st.length - m)), Part.b c]) : Note) := by rw [hu]; rfl
  rw [e1] at hS
  rw [show step (.item m c) st ns = ((said ((.item m c : Sim).asks (under (.item m c) st)).1 ((.item m c : Sim).asks (under (.item m c) st)).2).map fun x => base (.item m c) st ++ [x], ns ++ [(.item m c : Sim).asks (under (.item m c) st)]) from rfl, e1] at h
  refine' enter_ (n := 7) ["work", "order", "hooks"] ["word", "keys"] [("do_part", .ref 252), ("do_deed", .ref 259), ("do_other", .ref 266)] hA O hl ?ho ?hcd ?hc ?hg ?hlen ?hbind ?_
  case ho => k_is
  case hcd => k_is
  case hc => decide +kernel
  case hg => exact (List.forall_mem_cons.mpr ⟨gl_do_part w, (List.forall_mem_cons.mpr ⟨gl_do_deed w, (List.forall_mem_cons.mpr ⟨gl_do_other w, (fun _ h => nomatch h)⟩)⟩)⟩)
  case hlen => rfl
  case hbind => exact BindsTo.of_eq rfl
  intro env s' q1 q2 F G hA'
  simp only [l0, List.zip, List.zipWith, List.map, List.nil_append, List.cons_append] at F
  have hh := hA'.hd
  repeat k_all
  rename Fm _ _ _ _ _ _ _ _ _ => F; refine itemT_ (F.tupR ho) (by decide) rfl (Nat.le_of_ble_eq_true rfl) ?_
  repeat k_all
  rename Fm _ _ _ _ _ _ _ _ _ => F; refine wmeth_ F hx hw .head (wM_take w) (by intros; rfl) ?_
  repeat k_all
  rename Fm _ _ _ _ _ _ _ _ _ => F; refine itemT_ (F.tupR ho) (by decide) rfl (Nat.le_of_ble_eq_true rfl) ?_
  repeat k_all
  rename Fm _ _ _ _ _ _ _ _ _ => F
  refine take_r (many := m) (hA'.le (by decide)) F.out.ok (F.front (l1 := [_, _])) hx hw hst hz (by omega) ?_
  intro s4 od4 sb4 fa us4 ts4 hR_fa hw hb4 hts P4
  have F4 := F.after2 P4
  clear F
  have le4 := Le.put (o := listOf ts4.toArray 0) hR_fa
  have ho := le4 _ _ ho; have hx := le4 _ _ hx; have H := H.mono le4
  have hN := hN.mono le4
  repeat k_all
  rename Fm _ _ _ _ _ _ _ _ _ => F; refine wmeth_ F hx hw .head (wM_push w) (by intros; rfl) ?_
  repeat k_all
  rename Fm _ _ _ _ _ _ _ _ _ => F; refine hmeth_ F H (hM_itemof w) (by intros; rfl) ?_
  repeat k_all
  rename Fm _ _ _ _ _ _ _ _ _ => F; refine wmeth_ F hx hw .head (wM_pop w) (by intros; rfl) ?_
  repeat k_all
  rename Fm _ _ _ _ _ _ _ _ _ => F
  refine pop_r (hA'.le (by decide)) F.out.ok (F.front (l1 := [_, _])) hx hw hb4 (by omega) (by omega) ?_
  intro s6 us6 n6 t6 P6 hb6
  have F6 := F.after2 P6
  clear F
  repeat k_all
  have hb : StrsAre us6 (base (.item m c) st) := by
    rw [e0, List.take_take, show min (st.length - m - 1) (st.length - m) = st.length - (m + 1) by omega] at hb6
    exact hb6
  rename Fm _ _ _ _ _ _ _ _ _ => F; refine itemT_ (F.tupR ho) (by decide) rfl (Nat.le_of_ble_eq_true rfl) ?_
  repeat k_all
  rename Fm _ _ _ _ _ _ _ _ _ => F
  have F := F.rot3
  refine h_itemof (hA'.le (by decide)) F.out.ok (F.front (l1 := [_])) hN hnl H.H H.L H.C H.le PartR.s (PartR.l (Imm.put_self) hts) PartR.b hS ?_
  intro v5 s5 R5 nvs5 kn5 P5 le5 hN hv5
  have F5 := (F.after1 P5).rot3'
  clear F
  have ho := le5 _ _ ho; have hx := le5 _ _ hx; have H := H.mono le5
  repeat k_all
  rename Fm _ _ _ _ _ _ _ _ _ => F
  refine push_r (r := said _ _) (hA'.le (by decide)) F.out.ok (F.front (l1 := [_, _])) hx hw hb (by rw [StrsAre.length' hb]; exact Nat.le_trans (by simp [base]) hz) (AnsV.of (by decide) hv5) ?_
  intro s9 vs9 n9 P9 hst9
  have F9 := F.after2 P9
  clear F
  repeat k_all
  rename Fm _ _ _ _ _ _ _ _ _ => F
  exact h _ _ _ _ _ _ _ _ F.post ((le4).trans le5) hw hst9 hN
end

-- LOc
section
variable {prog : Program} {w : World} {s : Shared} {R R1 : Imm} {A : Around} {E : Value → Shared → Prop} {hk lam th x dx sa ga oa : Addr} {nvs vs ovs : List Value} {n k kn : Nat} {ns : List Note} {st : List Str} {od : Obj} {fo go : Value} {Q : Value → Shared → Prop}

theorem order_un {y : Str} (hA : Rm 8 A) (O : Ok (hd.heap_1 w.params) R s) (hl : Led R [(dx, od), (sa, listOf vs.toArray n), (th, listOf nvs.toArray kn)] s) (hx : R x = some (instObj 80 dx)) (hw : WorkD od (.ref sa) (.ref ga) fo go) (H : HK prog w R1 R hk lam th)
    (hN : NotesR R nvs ns) (hnl : ns.length ≤ 90000) (hst : StrsAre vs st) (hz : st.length ≤ 1000) (ho : R oa = some (tupOf ovs.toArray k)) (hlt : LitsAre ovs (Sim.lits (.un y))) (hneed : (.un y : Sim).need ≤ st.length) (hS : SaidOk ((.un y : Sim).asks (under (.un y) st)).1 ((.un y : Sim).asks (under (.un y) st)).2)
    (h : StK w s [dx, sa, th] R dx th (.ref ga) fo go Q (step (.un y) st ns).1 (base (.un y) st) (step (.un y) st ns).2) :
    wpAny (model prog w) A (call (.ref 245) [.ref x, .ref oa, .ref hk]) Q E s := by
  rcases hlt with _ | hlt | hlt | hlt
  rcases hlt with _ | hlt | hlt | hlt
  cases hlt
  refine' enter_ (n := 7) ["work", "order", "hooks"] ["word", "keys"] [("do_part", .ref 252), ("do_deed", .ref 259), ("do_other", .ref 266)] hA O hl ?ho ?hcd ?hc ?hg ?hlen ?hbind ?_
  case ho => k_is
  case hcd => k_is
  case hc => decide +kernel
  case hg => exact (List.forall_mem_cons.mpr ⟨gl_do_part w, (List.forall_mem_cons.mpr ⟨gl_do_deed w, (List.forall_mem_cons.mpr ⟨gl_do_other w, (fun _ h => nomatch h)⟩)⟩)⟩)
  case hlen => rfl
  case hbind => exact BindsTo.of_eq rfl
  intro env s' q1 q2 F G hA'
  simp only [l0, List.zip, List.zipWith, List.map, List.nil_append, List.cons_append] at F
  have hh := hA'.hd
  repeat k_all
  rename Fm _ _ _ _ _ _ _ _ _ => F; refine itemT_ (F.tupR ho) (by decide) rfl (Nat.le_of_ble_eq_true rfl) ?_
  repeat k_all
  rename Fm _ _ _ _ _ _ _ _ _ => F; refine nt_ F ?_ (Nat.le_of_ble_eq_true rfl); clear F; intro z s_z F hn_z; (repeat k_all); rename Fm _ _ _ _ _ _ _ _ _ => F; (first | refine inTt_ F .head (by repeat constructor) (by decide) ?_ | refine inTf_ F .head (by repeat constructor) (by decide) ?_); have F9 := F.drop; clear F; rename Fm _ _ _ _ _ _ _ _ _ => F; (repeat k_all)
  rename Fm _ _ _ _ _ _ _ _ _ => F; refine wmeth_ F hx hw .head (wM_push w) (by intros; rfl) ?_
  repeat k_all
  rename Fm _ _ _ _ _ _ _ _ _ => F; refine hmeth_ F H (hM_operated w) (by intros; rfl) ?_
  repeat k_all
  rename Fm _ _ _ _ _ _ _ _ _ => F; refine itemT_ (F.tupR ho) (by decide) rfl (Nat.le_of_ble_eq_true rfl) ?_
  repeat k_all
  rename Fm _ _ _ _ _ _ _ _ _ => F; refine wmeth_ F hx hw .head (wM_take w) (by intros; rfl) ?_
  repeat k_all
  rename Fm _ _ _ _ _ _ _ _ _ => F
  refine take_r (many := 1) (hA'.le (by decide)) F.out.ok (F.front (l1 := [_, _])) hx hw hst hz (by simpa [Sim.need, Sim.many] using hneed) ?_
  intro s4 od4 sb4 fa us4 ts4 hR_fa hw hb hts P4
  have F4 := F.after2 P4
  clear F
  have le4 := Le.put (o := listOf ts4.toArray 0) hR_fa
  have ho := le4 _ _ ho; have hx := le4 _ _ hx; have H := H.mono le4
  have hN := hN.mono le4
  repeat k_all
  rename Fm _ _ _ _ _ _ _ _ _ => F
  have F := F.rot3
  refine h_operated (hA'.le (by decide)) F.out.ok (F.front (l1 := [_])) hN hnl H.H H.L H.C H.le PartR.s (PartR.l (Imm.put_self) hts) hS ?_
  intro v5 s5 R5 nvs5 kn5 P5 le5 hN hv5
  have F5 := (F.after1 P5).rot3'
  clear F
  have ho := le5 _ _ ho; have hx := le5 _ _ hx; have H := H.mono le5
  repeat k_all
  rename Fm _ _ _ _ _ _ _ _ _ => F
  refine push_r (r := said _ _) (hA'.le (by decide)) F.out.ok (F.front (l1 := [_, _])) hx hw hb (by rw [StrsAre.length' hb]; exact Nat.le_trans (by simp [base]) hz) (AnsV.of (by decide) hv5) ?_
  intro s9 vs9 n9 P9 hst9
  have F9 := F.after2 P9
  clear F
  repeat k_all
  rename Fm _ _ _ _ _ _ _ _ _ => F
  exact h _ _ _ _ _ _ _ _ F.post ((le4).trans le5) hw hst9 hN

theorem order_bin {y : Str} (hA : Rm 8 A) (O : Ok (hd.heap_1 w.params) R s) (hl : Led R [(dx, od), (sa, listOf vs.toArray n), (th, listOf nvs.toArray kn)] s) (hx : R x = some (instObj 80 dx)) (hw : WorkD od (.ref sa) (.ref ga) fo go) (H : HK prog w R1 R hk lam th)
    (hN : NotesR R nvs ns) (hnl : ns.length ≤ 90000) (hst : StrsAre vs st) (hz : st.length ≤ 1000) (ho : R oa = some (tupOf ovs.toArray k)) (hlt : LitsAre ovs (Sim.lits (.bin y))) (hneed : (.bin y : Sim).need ≤ st.length) (hS : SaidOk ((.bin y : Sim).asks (under (.bin y) st)).1 ((.bin y : Sim).asks (under (.bin y) st)).2)
    (h : StK w s [dx, sa, th] R dx th (.ref ga) fo go Q (step (.bin y) st ns).1 (base (.bin y) st) (step (.bin y) st ns).2) :
    wpAny (model prog w) A (call (.ref 245) [.ref x, .ref oa, .ref hk]) Q E s := by
  rcases hlt with _ | hlt | hlt | hlt
  rcases hlt with _ | hlt | hlt | hlt
  cases hlt
  refine' enter_ (n := 7) ["work", "order", "hooks"] ["word", "keys"] [("do_part", .ref 252), ("do_deed", .ref 259), ("do_other", .ref 266)] hA O hl ?ho ?hcd ?hc ?hg ?hlen ?hbind ?_
  case ho => k_is
  case hcd => k_is
  case hc => decide +kernel
  case hg => exact (List.forall_mem_cons.mpr ⟨gl_do_part w, (List.forall_mem_cons.mpr ⟨gl_do_deed w, (List.forall_mem_cons.mpr ⟨gl_do_other w, (fun _ h => nomatch h)⟩)⟩)⟩)
  case hlen => rfl
  case hbind => exact BindsTo.of_eq rfl
  intro env s' q1 q2 F G hA'
  simp only [l0, List.zip, List.zipWith, List.map, List.nil_append, List.cons_append] at F
  have hh := hA'.hd
  repeat k_all
  rename Fm _ _ _ _ _ _ _ _ _ => F; refine itemT_ (F.tupR ho) (by decide) rfl (Nat.le_of_ble_eq_true rfl) ?_
  repeat k_all
  rename Fm _ _ _ _ _ _ _ _ _ => F; refine nt_ F ?_ (Nat.le_of_ble_eq_true rfl); clear F; intro z s_z F hn_z; (repeat k_all); rename Fm _ _ _ _ _ _ _ _ _ => F; (first | refine inTt_ F .head (by repeat constructor) (by decide) ?_ | refine inTf_ F .head (by repeat constructor) (by decide) ?_); have F9 := F.drop; clear F; rename Fm _ _ _ _ _ _ _ _ _ => F; (repeat k_all)
  rename Fm _ _ _ _ _ _ _ _ _ => F; refine wmeth_ F hx hw .head (wM_push w) (by intros; rfl) ?_
  repeat k_all
  rename Fm _ _ _ _ _ _ _ _ _ => F; refine hmeth_ F H (hM_operated w) (by intros; rfl) ?_
  repeat k_all
  rename Fm _ _ _ _ _ _ _ _ _ => F; refine itemT_ (F.tupR ho) (by decide) rfl (Nat.le_of_ble_eq_true rfl) ?_
  repeat k_all
  rename Fm _ _ _ _ _ _ _ _ _ => F; refine wmeth_ F hx hw .head (wM_take w) (by intros; rfl) ?_
  repeat k_all
  rename Fm _ _ _ _ _ _ _ _ _ => F
  refine take_r (many := 2) (hA'.le (by decide)) F.out.ok (F.front (l1 := [_, _])) hx hw hst hz (by simpa [Sim.need, Sim.many] using hneed) ?_
  intro s4 od4 sb4 fa us4 ts4 hR_fa hw hb hts P4
  have F4 := F.after2 P4
  clear F
  have le4 := Le.put (o := listOf ts4.toArray 0) hR_fa
  have ho := le4 _ _ ho; have hx := le4 _ _ hx; have H := H.mono le4
  have hN := hN.mono le4
  repeat k_all
  rename Fm _ _ _ _ _ _ _ _ _ => F
  have F := F.rot3
  refine h_operated (hA'.le (by decide)) F.out.ok (F.front (l1 := [_])) hN hnl H.H H.L H.C H.le PartR.s (PartR.l (Imm.put_self) hts) hS ?_
  intro v5 s5 R5 nvs5 kn5 P5 le5 hN hv5
  have F5 := (F.after1 P5).rot3'
  clear F
  have ho := le5 _ _ ho; have hx := le5 _ _ hx; have H := H.mono le5
  repeat k_all
  rename Fm _ _ _ _ _ _ _ _ _ => F
  refine push_r (r := said _ _) (hA'.le (by decide)) F.out.ok (F.front (l1 := [_, _])) hx hw hb (by rw [StrsAre.length' hb]; exact Nat.le_trans (by simp [base]) hz) (AnsV.of (by decide) hv5) ?_
  intro s9 vs9 n9 P9 hst9
  have F9 := F.after2 P9
  clear F
  repeat k_all
  rename Fm _ _ _ _ _ _ _ _ _ => F
  exact h _ _ _ _ _ _ _ _ F.post ((le4).trans le5) hw hst9 hN

theorem order_join  (hA : Rm 8 A) (O : Ok (hd.heap_1 w.params) R s) (hl : Led R [(dx, od), (sa, listOf vs.toArray n), (th, listOf nvs.toArray kn)] s) (hx : R x = some (instObj 80 dx)) (hw : WorkD od (.ref sa) (.ref ga) fo go) (H : HK prog w R1 R hk lam th)
    (hN : NotesR R nvs ns) (hnl : ns.length ≤ 90000) (hst : StrsAre vs st) (hz : st.length ≤ 1000) (ho : R oa = some (tupOf ovs.toArray k)) (hlt : LitsAre ovs (Sim.lits (.join))) (hneed : (.join : Sim).need ≤ st.length) (hS : SaidOk ((.join : Sim).asks (under (.join) st)).1 ((.join : Sim).asks (under (.join) st)).2)
    (h : StK w s [dx, sa, th] R dx th (.ref ga) fo go Q (step (.join) st ns).1 (base (.join) st) (step (.join) st ns).2) :
    wpAny (model prog w) A (call (.ref 245) [.ref x, .ref oa, .ref hk]) Q E s := by
  rcases hlt with _ | hlt | hlt | hlt
  cases hlt
  refine' enter_ (n := 7) ["work", "order", "hooks"] ["word", "keys"] [("do_part", .ref 252), ("do_deed", .ref 259), ("do_other", .ref 266)] hA O hl ?ho ?hcd ?hc ?hg ?hlen ?hbind ?_
  case ho => k_is
  case hcd => k_is
  case hc => decide +kernel
  case hg => exact (List.forall_mem_cons.mpr ⟨gl_do_part w, (List.forall_mem_cons.mpr ⟨gl_do_deed w, (List.forall_mem_cons.mpr ⟨gl_do_other w, (fun _ h => nomatch h)⟩)⟩)⟩)
  case hlen => rfl
  case hbind => exact BindsTo.of_eq rfl
  intro env s' q1 q2 F G hA'
  simp only [l0, List.zip, List.zipWith, List.map, List.nil_append, List.cons_append] at F
  have hh := hA'.hd
  repeat k_all
  rename Fm _ _ _ _ _ _ _ _ _ => F; refine itemT_ (F.tupR ho) (by decide) rfl (Nat.le_of_ble_eq_true rfl) ?_
  repeat k_all
  rename Fm _ _ _ _ _ _ _ _ _ => F; refine nt_ F ?_ (Nat.le_of_ble_eq_true rfl); clear F; intro z s_z F hn_z; (repeat k_all); rename Fm _ _ _ _ _ _ _ _ _ => F; (first | refine inTt_ F .head (by repeat constructor) (by decide) ?_ | refine inTf_ F .head (by repeat constructor) (by decide) ?_); have F9 := F.drop; clear F; rename Fm _ _ _ _ _ _ _ _ _ => F; (repeat k_all)
  rename Fm _ _ _ _ _ _ _ _ _ => F; refine wmeth_ F hx hw .head (wM_push w) (by intros; rfl) ?_
  repeat k_all
  rename Fm _ _ _ _ _ _ _ _ _ => F; refine hmeth_ F H (hM_operated w) (by intros; rfl) ?_
  repeat k_all
  rename Fm _ _ _ _ _ _ _ _ _ => F; refine wmeth_ F hx hw .head (wM_take w) (by intros; rfl) ?_
  repeat k_all
  rename Fm _ _ _ _ _ _ _ _ _ => F
  refine take_r (many := 2) (hA'.le (by decide)) F.out.ok (F.front (l1 := [_, _])) hx hw hst hz (by simpa [Sim.need, Sim.many] using hneed) ?_
  intro s4 od4 sb4 fa us4 ts4 hR_fa hw hb hts P4
  have F4 := F.after2 P4
  clear F
  have le4 := Le.put (o := listOf ts4.toArray 0) hR_fa
  have ho := le4 _ _ ho; have hx := le4 _ _ hx; have H := H.mono le4
  have hN := hN.mono le4
  repeat k_all
  rename Fm _ _ _ _ _ _ _ _ _ => F
  have F := F.rot3
  refine h_operated (hA'.le (by decide)) F.out.ok (F.front (l1 := [_])) hN hnl H.H H.L H.C H.le PartR.s (PartR.l (Imm.put_self) hts) hS ?_
  intro v5 s5 R5 nvs5 kn5 P5 le5 hN hv5
  have F5 := (F.after1 P5).rot3'
  clear F
  have ho := le5 _ _ ho; have hx := le5 _ _ hx; have H := H.mono le5
  repeat k_all
  rename Fm _ _ _ _ _ _ _ _ _ => F
  refine push_r (r := said _ _) (hA'.le (by decide)) F.out.ok (F.front (l1 := [_, _])) hx hw hb (by rw [StrsAre.length' hb]; exact Nat.le_trans (by simp [base]) hz) (AnsV.of (by decide) hv5) ?_
  intro s9 vs9 n9 P9 hst9
  have F9 := F.after2 P9
  clear F
  repeat k_all
  rename Fm _ _ _ _ _ _ _ _ _ => F
  exact h _ _ _ _ _ _ _ _ F.post ((le4).trans le5) hw hst9 hN
end

-- LOd
section
variable {prog : Program} {w : World} {s : Shared} {R R1 : Imm} {A : Around} {E : Value → Shared → Prop} {hk lam th x dx sa ga oa : Addr} {nvs vs ovs : List Value} {n k kn : Nat} {ns : List Note} {st : List Str} {od : Obj} {fo go : Value} {Q : Value → Shared → Prop}

theorem part_del {y : Str} (hA : Rm 7 A) (O : Ok (hd.heap_1 w.params) R s) (hl : Led R [(dx, od), (sa, listOf vs.toArray n), (th, listOf nvs.toArray kn)] s) (hx : R x = some (instObj 80 dx)) (hw : WorkD od (.ref sa) (.ref ga) fo go) (H : HK prog w R1 R hk lam th)
    (hN : NotesR R nvs ns) (hnl : ns.length ≤ 90000) (hst : StrsAre vs st) (hz : st.length ≤ 1000) (ho : R oa = some (tupOf ovs.toArray k)) (hlt : LitsAre ovs (Sim.lits (.del y))) (hneed : (.del y : Sim).need ≤ st.length) (hS : SaidOk ((.del y : Sim).asks (under (.del y) st)).1 ((.del y : Sim).asks (under (.del y) st)).2)
    (h : StK w s [dx, sa, th] R dx th (.ref ga) fo go Q (step (.del y) st ns).1 (base (.del y) st) (step (.del y) st ns).2) :
    wpAny (model prog w) A (call (.ref 252) [.ref x, .ref oa, .ref hk]) Q E s := by
  rcases hlt with _ | hlt | hlt | hlt
  rcases hlt with _ | hlt | hlt | hlt
  cases hlt
  have hb : StrsAre vs (base (.del y) st) := by rw [show base (.del y) st = st by simp [base, Sim.many]]; exact hst
  replace hS : SaidOk _ _ := hS
  refine' enter_ (n := 6) ["work", "order", "hooks"] ["ref"] [] hA O hl ?ho ?hcd ?hc ?hg ?hlen ?hbind ?_
  case ho => k_is
  case hcd => k_is
  case hc => decide +kernel
  case hg => exact (fun _ h => nomatch h)
  case hlen => rfl
  case hbind => exact BindsTo.of_eq rfl
  intro env s' q1 q2 F G hA'
  simp only [l0, List.zip, List.zipWith, List.map, List.nil_append, List.cons_append] at F
  have hh := hA'.hd
  repeat k_all
  rename Fm _ _ _ _ _ _ _ _ _ => F; refine itemT_ (F.tupR ho) (by decide) rfl (Nat.le_of_ble_eq_true rfl) ?_
  repeat k_all
  rename Fm _ _ _ _ _ _ _ _ _ => F; refine wmeth_ F hx hw .head (wM_push w) (by intros; rfl) ?_
  repeat k_all
  rename Fm _ _ _ _ _ _ _ _ _ => F; refine hmeth_ F H (hM_delayed w) (by intros; rfl) ?_
  repeat k_all
  rename Fm _ _ _ _ _ _ _ _ _ => F; refine itemT_ (F.tupR ho) (by decide) rfl (Nat.le_of_ble_eq_true rfl) ?_
  repeat k_all
  rename Fm _ _ _ _ _ _ _ _ _ => F
  have F := F.rot3
  refine h_delayed (hA'.le (by decide)) F.out.ok (F.front (l1 := [_])) hN hnl H.H H.L H.C H.le PartR.s hS ?_
  intro v5 s5 R5 nvs5 kn5 P5 le5 hN hv5
  have F5 := (F.after1 P5).rot3'
  clear F
  have ho := le5 _ _ ho; have hx := le5 _ _ hx; have H := H.mono le5
  repeat k_all
  rename Fm _ _ _ _ _ _ _ _ _ => F
  refine push_r (r := said _ _) (hA'.le (by decide)) F.out.ok (F.front (l1 := [_, _])) hx hw hb (by rw [StrsAre.length' hb]; exact Nat.le_trans (by simp [base]) hz) (AnsV.of (by decide) hv5) ?_
  intro s9 vs9 n9 P9 hst9
  have F9 := F.after2 P9
  clear F
  repeat k_all
  rename Fm _ _ _ _ _ _ _ _ _ => F
  exact h _ _ _ _ _ _ _ _ F.post (le5) hw hst9 hN

theorem part_cursor  (hA : Rm 7 A) (O : Ok (hd.heap_1 w.params) R s) (hl : Led R [(dx, od), (sa, listOf vs.toArray n), (th, listOf nvs.toArray kn)] s) (hx : R x = some (instObj 80 dx)) (hw : WorkD od (.ref sa) (.ref ga) fo go) (H : HK prog w R1 R hk lam th)
    (hN : NotesR R nvs ns) (hnl : ns.length ≤ 90000) (hst : StrsAre vs st) (hz : st.length ≤ 1000) (ho : R oa = some (tupOf ovs.toArray k)) (hlt : LitsAre ovs (Sim.lits (.cursor))) (hneed : (.cursor : Sim).need ≤ st.length) (hS : SaidOk ((.cursor : Sim).asks (under (.cursor) st)).1 ((.cursor : Sim).asks (under (.cursor) st)).2)
    (h : StK w s [dx, sa, th] R dx th (.ref ga) fo go Q (step (.cursor) st ns).1 (base (.cursor) st) (step (.cursor) st ns).2) :
    wpAny (model prog w) A (call (.ref 252) [.ref x, .ref oa, .ref hk]) Q E s := by
  rcases hlt with _ | hlt | hlt | hlt
  cases hlt
  have h0 : 0 < st.length := hneed
  have hu : under .cursor st = [st.getLastD ""] := drop_last1 h0
  have e1 : (.cursor : Sim).asks (under .cursor st) = ((Str.ofString "cursor", [Part.s (st.getLastD "")]) : Note) := by rw [hu]; rfl
  rw [e1] at hS
  rw [show step .cursor st ns = ((said ((.cursor : Sim).asks (under .cursor st)).1 ((.cursor : Sim).asks (under .cursor st)).2).map fun x => base .cursor st ++ [x], ns ++ [(.cursor : Sim).asks (under .cursor st)]) from rfl, e1] at h
  refine' enter_ (n := 6) ["work", "order", "hooks"] ["ref"] [] hA O hl ?ho ?hcd ?hc ?hg ?hlen ?hbind ?_
  case ho => k_is
  case hcd => k_is
  case hc => decide +kernel
  case hg => exact (fun _ h => nomatch h)
  case hlen => rfl
  case hbind => exact BindsTo.of_eq rfl
  intro env s' q1 q2 F G hA'
  simp only [l0, List.zip, List.zipWith, List.map, List.nil_append, List.cons_append] at F
  have hh := hA'.hd
  repeat k_all
  rename Fm _ _ _ _ _ _ _ _ _ => F; refine itemT_ (F.tupR ho) (by decide) rfl (Nat.le_of_ble_eq_true rfl) ?_
  repeat k_all
  rename Fm _ _ _ _ _ _ _ _ _ => F; refine wmeth_ F hx hw .head (wM_pop w) (by intros; rfl) ?_
  repeat k_all
  rename Fm _ _ _ _ _ _ _ _ _ => F
  refine pop_r (hA'.le (by decide)) F.out.ok (F.front (l1 := [_, _])) hx hw hst hz h0 ?_
  intro s4 us4 n4 t4 P4 hb
  have F4 := F.after2 P4
  clear F
  repeat k_all
  rename Fm _ _ _ _ _ _ _ _ _ => F; refine itemT_ (F.tupR ho) (by decide) rfl (Nat.le_of_ble_eq_true rfl) ?_
  repeat k_all
  rename Fm _ _ _ _ _ _ _ _ _ => F; refine wmeth_ F hx hw .head (wM_push w) (by intros; rfl) ?_
  repeat k_all
  rename Fm _ _ _ _ _ _ _ _ _ => F; refine hmeth_ F H (hM_cursor w) (by intros; rfl) ?_
  repeat k_all
  rename Fm _ _ _ _ _ _ _ _ _ => F
  have F := F.rot3
  refine h_cursor (hA'.le (by decide)) F.out.ok (F.front (l1 := [_])) hN hnl H.H H.L H.C H.le PartR.s hS ?_
  intro v5 s5 R5 nvs5 kn5 P5 le5 hN hv5
  have F5 := (F.after1 P5).rot3'
  clear F
  have ho := le5 _ _ ho; have hx := le5 _ _ hx; have H := H.mono le5
  repeat k_all
  rename Fm _ _ _ _ _ _ _ _ _ => F
  refine push_r (r := said _ _) (hA'.le (by decide)) F.out.ok (F.front (l1 := [_, _])) hx hw hb (by rw [StrsAre.length' hb]; exact Nat.le_trans (by simp [base]) hz) (AnsV.of (by decide) hv5) ?_
  intro s9 vs9 n9 P9 hst9
  have F9 := F.after2 P9
  clear F
  repeat k_all
  rename Fm _ _ _ _ _ _ _ _ _ => F
  exact h _ _ _ _ _ _ _ _ F.post (le5) hw hst9 hN

theorem part_given {y : Str} (hA : Rm 7 A) (O : Ok (hd.heap_1 w.params) R s) (hl : Led R [(dx, od), (sa, listOf vs.toArray n), (th, listOf nvs.toArray kn)] s) (hx : R x = some (instObj 80 dx)) (hw : WorkD od (.ref sa) (.ref ga) fo go) (H : HK prog w R1 R hk lam th)
    (hN : NotesR R nvs ns) (hnl : ns.length ≤ 90000) (hst : StrsAre vs st) (hz : st.length ≤ 1000) (ho : R oa = some (tupOf ovs.toArray k)) (hlt : LitsAre ovs (Sim.lits (.given y))) (hneed : (.given y : Sim).need ≤ st.length) (hS : SaidOk ((.given y : Sim).asks (under (.given y) st)).1 ((.given y : Sim).asks (under (.given y) st)).2)
    (h : StK w s [dx, sa, th] R dx th (.ref ga) fo go Q (step (.given y) st ns).1 (base (.given y) st) (step (.given y) st ns).2) :
    wpAny (model prog w) A (call (.ref 252) [.ref x, .ref oa, .ref hk]) Q E s := by
  rcases hlt with _ | hlt | hlt | hlt
  rcases hlt with _ | hlt | hlt | hlt
  cases hlt
  have h0 : 2 ≤ st.length := hneed
  have e0 : (st.take (st.length - 1)).length = st.length - 1 := by rw [List.length_take]; omega
  have hu : under (.given y) st = [(st.take (st.length - 1)).getLastD "", st.getLastD ""] := by
    show st.drop (st.length - 2) = _
    have q := drop_last1 (st := st.take (st.length - 1)) (by omega)
    rw [e0, List.drop_take, show st.length - 1 - (st.length - 1 - 1) = 1 by omega] at q
    have q2 : st.drop (st.length - 2) = (st.drop (st.length - 2)).take 1 ++ (st.drop (st.length - 2)).drop 1 := (List.take_append_drop 1 _).symm
    rw [show st.length - 1 - 1 = st.length - 2 by omega] at q
    rw [q2, q, List.drop_drop, show st.length - 2 + 1 = st.length - 1 by omega, drop_last1 (by omega)]; rfl
  have e1 : (.given y : Sim).asks (under (.given y) st) = ((Str.ofString "given", [Part.s y, Part.s ((st.take (st.length - 1)).getLastD ""), Part.s (st.getLastD "")]) : Note) := by rw [hu]; rfl
  rw [e1] at hS
  rw [show step (.given y) st ns = ((said ((.given y : Sim).asks (under (.given y) st)).1 ((.given y : Sim).asks (under (.given y) st)).2).map fun x => base (.given y) st ++ [x], ns ++ [(.given y : Sim).asks (under (.given y) st)]) from rfl, e1] at h
  refine' enter_ (n := 6) ["work", "order", "hooks"] ["ref"] [] hA O hl ?ho ?hcd ?hc ?hg ?hlen ?hbind ?_
  case ho => k_is
  case hcd => k_is
  case hc => decide +kernel
  case hg => exact (fun _ h => nomatch h)
  case hlen => rfl
  case hbind => exact BindsTo.of_eq rfl
  intro env s' q1 q2 F G hA'
  simp only [l0, List.zip, List.zipWith, List.map, List.nil_append, List.cons_append] at F
  have hh := hA'.hd
  repeat k_all
  rename Fm _ _ _ _ _ _ _ _ _ => F; refine itemT_ (F.tupR ho) (by decide) rfl (Nat.le_of_ble_eq_true rfl) ?_
  repeat k_all
  rename Fm _ _ _ _ _ _ _ _ _ => F; refine wmeth_ F hx hw .head (wM_pop w) (by intros; rfl) ?_
  repeat k_all
  rename Fm _ _ _ _ _ _ _ _ _ => F
  refine pop_r (hA'.le (by decide)) F.out.ok (F.front (l1 := [_, _])) hx hw hst hz (by omega) ?_
  intro s4 us4 n4 t4 P4 hb4
  have F4 := F.after2 P4
  clear F
  repeat k_all
  rename Fm _ _ _ _ _ _ _ _ _ => F; refine itemT_ (F.tupR ho) (by decide) rfl (Nat.le_of_ble_eq_true rfl) ?_
  repeat k_all
  rename Fm _ _ _ _ _ _ _ _ _ => F; refine wmeth_ F hx hw .head (wM_push w) (by intros; rfl) ?_
  repeat k_all
  rename Fm _ _ _ _ _ _ _ _ _ => F; refine hmeth_ F H (hM_givenpart w) (by intros; rfl) ?_
  repeat k_all
  rename Fm _ _ _ _ _ _ _ _ _ => F; refine itemT_ (F.tupR ho) (by decide) rfl (Nat.le_of_ble_eq_true rfl) ?_
  repeat k_all
  rename Fm _ _ _ _ _ _ _ _ _ => F; refine wmeth_ F hx hw .head (wM_pop w) (by intros; rfl) ?_
  repeat k_all
  rename Fm _ _ _ _ _ _ _ _ _ => F
  refine pop_r (hA'.le (by decide)) F.out.ok (F.front (l1 := [_, _])) hx hw hb4 (by omega) (by omega) ?_
  intro s6 us6 n6 t6 P6 hb6
  have F6 := F.after2 P6
  clear F
  repeat k_all
  have hb : StrsAre us6 (base (.given y) st) := by
    rw [e0, List.take_take, show min (st.length - 1 - 1) (st.length - 1) = st.length - 2 by omega] at hb6
    exact hb6
  rename Fm _ _ _ _ _ _ _ _ _ => F
  have F := F.rot3
  refine h_givenpart (hA'.le (by decide)) F.out.ok (F.front (l1 := [_])) hN hnl H.H H.L H.C H.le PartR.s PartR.s PartR.s hS ?_
  intro v5 s5 R5 nvs5 kn5 P5 le5 hN hv5
  have F5 := (F.after1 P5).rot3'
  clear F
  have ho := le5 _ _ ho; have hx := le5 _ _ hx; have H := H.mono le5
  repeat k_all
  rename Fm _ _ _ _ _ _ _ _ _ => F
  refine push_r (r := said _ _) (hA'.le (by decide)) F.out.ok (F.front (l1 := [_, _])) hx hw hb (by rw [StrsAre.length' hb]; exact Nat.le_trans (by simp [base]) hz) (AnsV.of (by decide) hv5) ?_
  intro s9 vs9 n9 P9 hst9
  have F9 := F.after2 P9
  clear F
  repeat k_all
  rename Fm _ _ _ _ _ _ _ _ _ => F
  exact h _ _ _ _ _ _ _ _ F.post (le5) hw hst9 hN

theorem order_del {y : Str} (hA : Rm 8 A) (O : Ok (hd.heap_1 w.params) R s) (hl : Led R [(dx, od), (sa, listOf vs.toArray n), (th, listOf nvs.toArray kn)] s) (hx : R x = some (instObj 80 dx)) (hw : WorkD od (.ref sa) (.ref ga) fo go) (H : HK prog w R1 R hk lam th)
    (hN : NotesR R nvs ns) (hnl : ns.length ≤ 90000) (hst : StrsAre vs st) (hz : st.length ≤ 1000) (ho : R oa = some (tupOf ovs.toArray k)) (hlt : LitsAre ovs (Sim.lits (.del y))) (hneed : (.del y : Sim).need ≤ st.length) (hS : SaidOk ((.del y : Sim).asks (under (.del y) st)).1 ((.del y : Sim).asks (under (.del y) st)).2)
    (h : StK w s [dx, sa, th] R dx th (.ref ga) fo go Q (step (.del y) st ns).1 (base (.del y) st) (step (.del y) st ns).2) :
    wpAny (model prog w) A (call (.ref 245) [.ref x, .ref oa, .ref hk]) Q E s := by
  have hlt0 := hlt
  rcases hlt with _ | hlt | hlt | hlt
  rcases hlt with _ | hlt | hlt | hlt
  cases hlt
  refine' enter_ (n := 7) ["work", "order", "hooks"] ["word", "keys"] [("do_part", .ref 252), ("do_deed", .ref 259), ("do_other", .ref 266)] hA O hl ?ho ?hcd ?hc ?hg ?hlen ?hbind ?_
  case ho => k_is
  case hcd => k_is
  case hc => decide +kernel
  case hg => exact (List.forall_mem_cons.mpr ⟨gl_do_part w, (List.forall_mem_cons.mpr ⟨gl_do_deed w, (List.forall_mem_cons.mpr ⟨gl_do_other w, (fun _ h => nomatch h)⟩)⟩)⟩)
  case hlen => rfl
  case hbind => exact BindsTo.of_eq rfl
  intro env s' q1 q2 F G hA'
  simp only [l0, List.zip, List.zipWith, List.map, List.nil_append, List.cons_append] at F
  have hh := hA'.hd
  repeat k_all
  rename Fm _ _ _ _ _ _ _ _ _ => F; refine itemT_ (F.tupR ho) (by decide) rfl (Nat.le_of_ble_eq_true rfl) ?_
  repeat k_all
  rename Fm _ _ _ _ _ _ _ _ _ => F; refine nt_ F ?_ (Nat.le_of_ble_eq_true rfl); clear F; intro z s_z F hn_z; (repeat k_all); rename Fm _ _ _ _ _ _ _ _ _ => F; (first | refine inTt_ F .head (by repeat constructor) (by decide) ?_ | refine inTf_ F .head (by repeat constructor) (by decide) ?_); have F9 := F.drop; clear F; rename Fm _ _ _ _ _ _ _ _ _ => F; (repeat k_all)
  rename Fm _ _ _ _ _ _ _ _ _ => F; refine nt_ F ?_ (Nat.le_of_ble_eq_true rfl); clear F; intro z s_z F hn_z; (repeat k_all); rename Fm _ _ _ _ _ _ _ _ _ => F; (first | refine inTt_ F .head (by repeat constructor) (by decide) ?_ | refine inTf_ F .head (by repeat constructor) (by decide) ?_); have F9 := F.drop; clear F; rename Fm _ _ _ _ _ _ _ _ _ => F; (repeat k_all)
  rename Fm _ _ _ _ _ _ _ _ _ => F
  refine part_del hA' F.out.ok (F.front (l1 := [_, _, _])) hx hw H hN hnl hst hz ho hlt0 hneed hS ?_
  intro s8 R8 od8 sb8 vs8 n8 nvs8 kn8 P8 le8 hw8 hst8 hN8
  have F8 := F.after3 P8
  clear F
  repeat k_all
  rename Fm _ _ _ _ _ _ _ _ _ => F
  exact h _ _ _ _ _ _ _ _ F.post le8 hw8 hst8 hN8

theorem order_cursor  (hA : Rm 8 A) (O : Ok (hd.heap_1 w.params) R s) (hl : Led R [(dx, od), (sa, listOf vs.toArray n), (th, listOf nvs.toArray kn)] s) (hx : R x = some (instObj 80 dx)) (hw : WorkD od (.ref sa) (.ref ga) fo go) (H : HK prog w R1 R hk lam th)
    (hN : NotesR R nvs ns) (hnl : ns.length ≤ 90000) (hst : StrsAre vs st) (hz : st.length ≤ 1000) (ho : R oa = some (tupOf ovs.toArray k)) (hlt : LitsAre ovs (Sim.lits (.cursor))) (hneed : (.cursor : Sim).need ≤ st.length) (hS : SaidOk ((.cursor : Sim).asks (under (.cursor) st)).1 ((.cursor : Sim).asks (under (.cursor) st)).2)
    (h : StK w s [dx, sa, th] R dx th (.ref ga) fo go Q (step (.cursor) st ns).1 (base (.cursor) st) (step (.cursor) st ns).2) :
    wpAny (model prog w) A (call (.ref 245) [.ref x, .ref oa, .ref hk]) Q E s := by
  have hlt0 := hlt
  rcases hlt with _ | hlt | hlt | hlt
  cases hlt
  refine' enter_ (n := 7) ["work", "order", "hooks"] ["word", "keys"] [("do_part", .ref 252), ("do_deed", .ref 259), ("do_other", .ref 266)] hA O hl ?ho ?hcd ?hc ?hg ?hlen ?hbind ?_
  case ho => k_is
  case hcd => k_is
  case hc => decide +kernel
  case hg => exact (List.forall_mem_cons.mpr ⟨gl_do_part w, (List.forall_mem_cons.mpr ⟨gl_do_deed w, (List.forall_mem_cons.mpr ⟨gl_do_other w, (fun _ h => nomatch h)⟩)⟩)⟩)
  case hlen => rfl
  case hbind => exact BindsTo.of_eq rfl
  intro env s' q1 q2 F G hA'
  simp only [l0, List.zip, List.zipWith, List.map, List.nil_append, List.cons_append] at F
  have hh := hA'.hd
  repeat k_all
  rename Fm _ _ _ _ _ _ _ _ _ => F; refine itemT_ (F.tupR ho) (by decide) rfl (Nat.le_of_ble_eq_true rfl) ?_
  repeat k_all
  rename Fm _ _ _ _ _ _ _ _ _ => F; refine nt_ F ?_ (Nat.le_of_ble_eq_true rfl); clear F; intro z s_z F hn_z; (repeat k_all); rename Fm _ _ _ _ _ _ _ _ _ => F; (first | refine inTt_ F .head (by repeat constructor) (by decide) ?_ | refine inTf_ F .head (by repeat constructor) (by decide) ?_); have F9 := F.drop; clear F; rename Fm _ _ _ _ _ _ _ _ _ => F; (repeat k_all)
  rename Fm _ _ _ _ _ _ _ _ _ => F; refine nt_ F ?_ (Nat.le_of_ble_eq_true rfl); clear F; intro z s_z F hn_z; (repeat k_all); rename Fm _ _ _ _ _ _ _ _ _ => F; (first | refine inTt_ F .head (by repeat constructor) (by decide) ?_ | refine inTf_ F .head (by repeat constructor) (by decide) ?_); have F9 := F.drop; clear F; rename Fm _ _ _ _ _ _ _ _ _ => F; (repeat k_all)
  rename Fm _ _ _ _ _ _ _ _ _ => F
  refine part_cursor hA' F.out.ok (F.front (l1 := [_, _, _])) hx hw H hN hnl hst hz ho hlt0 hneed hS ?_
  intro s8 R8 od8 sb8 vs8 n8 nvs8 kn8 P8 le8 hw8 hst8 hN8
  have F8 := F.after3 P8
  clear F
  repeat k_all
  rename Fm _ _ _ _ _ _ _ _ _ => F
  exact h _ _ _ _ _ _ _ _ F.post le8 hw8 hst8 hN8

theorem order_given {y : Str} (hA : Rm 8 A) (O : Ok (hd.heap_1 w.params) R s) (hl : Led R [(dx, od), (sa, listOf vs.toArray n), (th, listOf nvs.toArray kn)] s) (hx : R x = some (instObj 80 dx)) (hw : WorkD od (.ref sa) (.ref ga) fo go) (H : HK prog w R1 R hk lam th)
    (hN : NotesR R nvs ns) (hnl : ns.length ≤ 90000) (hst : StrsAre vs st) (hz : st.length ≤ 1000) (ho : R oa = some (tupOf ovs.toArray k)) (hlt : LitsAre ovs (Sim.lits (.given y))) (hneed : (.given y : Sim).need ≤ st.length) (hS : SaidOk ((.given y : Sim).asks (under (.given y) st)).1 ((.given y : Sim).asks (under (.given y) st)).2)
    (h : StK w s [dx, sa, th] R dx th (.ref ga) fo go Q (step (.given y) st ns).1 (base (.given y) st) (step (.given y) st ns).2) :
    wpAny (model prog w) A (call (.ref 245) [.ref x, .ref oa, .ref hk]) Q E s := by
  have hlt0 := hlt
  rcases hlt with _ | hlt | hlt | hlt
  rcases hlt with _ | hlt | hlt | hlt
  cases hlt
  refine' enter_ (n := 7) ["work", "order", "hooks"] ["word", "keys"] [("do_part", .ref 252), ("do_deed", .ref 259), ("do_other", .ref 266)] hA O hl ?ho ?hcd ?hc ?hg ?hlen ?hbind ?_
  case ho => k_is
  case hcd => k_is
  case hc => decide +kernel
  case hg => exact (List.forall_mem_cons.mpr ⟨gl_do_part w, (List.forall_mem_cons.mpr ⟨gl_do_deed w, (List.forall_mem_cons.mpr ⟨gl_do_other w, (fun _ h => nomatch h)⟩)⟩)⟩)
  case hlen => rfl
  case hbind => exact BindsTo.of_eq rfl
  intro env s' q1 q2 F G hA'
  simp only [l0, List.zip, List.zipWith, List.map, List.nil_append, List.cons_append] at F
  have hh := hA'.hd
  repeat k_all
  rename Fm _ _ _ _ _ _ _ _ _ => F; refine itemT_ (F.tupR ho) (by decide) rfl (Nat.le_of_ble_eq_true rfl) ?_
  repeat k_all
  rename Fm _ _ _ _ _ _ _ _ _ => F; refine nt_ F ?_ (Nat.le_of_ble_eq_true rfl); clear F; intro z s_z F hn_z; (repeat k_all); rename Fm _ _ _ _ _ _ _ _ _ => F; (first | refine inTt_ F .head (by repeat constructor) (by decide) ?_ | refine inTf_ F .head (by repeat constructor) (by decide) ?_); have F9 := F.drop; clear F; rename Fm _ _ _ _ _ _ _ _ _ => F; (repeat k_all)
  rename Fm _ _ _ _ _ _ _ _ _ => F; refine nt_ F ?_ (Nat.le_of_ble_eq_true rfl); clear F; intro z s_z F hn_z; (repeat k_all); rename Fm _ _ _ _ _ _ _ _ _ => F; (first | refine inTt_ F .head (by repeat constructor) (by decide) ?_ | refine inTf_ F .head (by repeat constructor) (by decide) ?_); have F9 := F.drop; clear F; rename Fm _ _ _ _ _ _ _ _ _ => F; (repeat k_all)
  rename Fm _ _ _ _ _ _ _ _ _ => F
  refine part_given hA' F.out.ok (F.front (l1 := [_, _, _])) hx hw H hN hnl hst hz ho hlt0 hneed hS ?_
  intro s8 R8 od8 sb8 vs8 n8 nvs8 kn8 P8 le8 hw8 hst8 hN8
  have F8 := F.after3 P8
  clear F
  repeat k_all
  rename Fm _ _ _ _ _ _ _ _ _ => F
  exact h _ _ _ _ _ _ _ _ F.post le8 hw8 hst8 hN8
end

-- LOe
section
variable {prog : Program} {w : World} {s : Shared} {R R1 : Imm} {A : Around} {E : Value → Shared → Prop} {hk lam th x dx sa ga oa : Addr} {nvs vs ovs : List Value} {n k kn : Nat} {ns : List Note} {st : List Str} {od : Obj} {fo go : Value} {Q : Value → Shared → Prop}

theorem other_double  (hA : Rm 7 A) (O : Ok (hd.heap_1 w.params) R s) (hl : Led R [(dx, od), (sa, listOf vs.toArray n), (th, listOf nvs.toArray kn)] s) (hx : R x = some (instObj 80 dx)) (hw : WorkD od (.ref sa) (.ref ga) fo go) (H : HK prog w R1 R hk lam th)
    (hN : NotesR R nvs ns) (hnl : ns.length ≤ 90000) (hst : StrsAre vs st) (hz : st.length ≤ 1000) (ho : R oa = some (tupOf ovs.toArray k)) (hlt : LitsAre ovs (Sim.lits (.double))) (hneed : (.double : Sim).need ≤ st.length)
    (h : StK w s [dx, sa, th] R dx th (.ref ga) fo go Q (step (.double) st ns).1 (base (.double) st) (step (.double) st ns).2) :
    wpAny (model prog w) A (call (.ref 266) [.ref x, .ref oa, .ref hk]) Q E s := by
  rcases hlt with _ | hlt | hlt | hlt
  cases hlt
  obtain ⟨us, t, rfl, hus⟩ := StrsAre.split1 hst hneed
  have hlen := StrsAre.length' hus
  have h0 : 0 < st.length := hneed
  rw [List.length_take] at hlen
  refine' enter_ (n := 6) ["work", "order", "hooks"] ["word"] [] hA O hl ?ho ?hcd ?hc ?hg ?hlen ?hbind ?_
  case ho => k_is
  case hcd => k_is
  case hc => decide +kernel
  case hg => exact (fun _ h => nomatch h)
  case hlen => rfl
  case hbind => exact BindsTo.of_eq rfl
  intro env s' q1 q2 F G hA'
  simp only [l0, List.zip, List.zipWith, List.map, List.nil_append, List.cons_append] at F
  have hh := hA'.hd
  repeat k_all
  rename Fm _ _ _ _ _ _ _ _ _ => F; refine itemT_ (F.tupR ho) (by decide) rfl (Nat.le_of_ble_eq_true rfl) ?_
  repeat k_all
  rename Fm _ _ _ _ _ _ _ _ _ => F; refine ex_ F ?_ (by with_unfolding_all rfl)
  repeat k_all
  rename Fm _ _ _ _ _ _ _ _ _ => F; refine wmeth_ F hx hw .head (wM_push w) (by intros; rfl) ?_
  repeat k_all
  rename Fm _ _ _ _ _ _ _ _ _ => F; refine wattr_ F hx hw .head (wG_stack w) (by intros; rfl) rfl ?_; clear F; intro s3 F
  repeat k_all
  rename Fm _ _ _ _ _ _ _ _ _ => F; refine negI_ F ?_; clear F; intro t4 s4 F
  repeat k_all
  rename Fm _ _ _ _ _ _ _ _ _ => F
  refine itemN_ (its := (us ++ [Value.str (st.getLastD "") t]).toArray) (v := .str (st.getLastD "") t) (F.listAt (.tail _ (.head _))) (by decide) (by rw [List.size_toArray, List.length_append]; show -(((us.length + 1 : Nat)) : Int) ≤ -1; omega) (by rw [List.size_toArray, List.length_append]; show us.length + 1 < 100000; omega) (by rw [List.size_toArray, List.length_append]; show (us ++ [_]).toArray[((-1 : Int) + ((us.length + 1 : Nat) : Int)).toNat]? = _; rw [show ((-1 : Int) + ((us.length + 1 : Nat) : Int)).toNat = us.length by omega]; simp) ?_
  repeat k_all
  rename Fm _ _ _ _ _ _ _ _ _ => F
  refine push_s (hA'.le (by decide)) F.out.ok (F.front (l1 := [_, _])) hx hw (by rw [List.length_append]; show us.length + 1 ≤ 1000; omega) ?_
  intro s5 n5 P5
  have F5 := F.after2 P5
  clear F
  repeat k_all
  refine neT_ (by decide) ?_
  repeat k_all
  rename Fm _ _ _ _ _ _ _ _ _ => F
  exact h _ _ _ _ _ _ _ _ F.post Le.refl hw (StrsAre.snoc' hst) hN

theorem order_double  (hA : Rm 8 A) (O : Ok (hd.heap_1 w.params) R s) (hl : Led R [(dx, od), (sa, listOf vs.toArray n), (th, listOf nvs.toArray kn)] s) (hx : R x = some (instObj 80 dx)) (hw : WorkD od (.ref sa) (.ref ga) fo go) (H : HK prog w R1 R hk lam th)
    (hN : NotesR R nvs ns) (hnl : ns.length ≤ 90000) (hst : StrsAre vs st) (hz : st.length ≤ 1000) (ho : R oa = some (tupOf ovs.toArray k)) (hlt : LitsAre ovs (Sim.lits (.double))) (hneed : (.double : Sim).need ≤ st.length)
    (h : StK w s [dx, sa, th] R dx th (.ref ga) fo go Q (step (.double) st ns).1 (base (.double) st) (step (.double) st ns).2) :
    wpAny (model prog w) A (call (.ref 245) [.ref x, .ref oa, .ref hk]) Q E s := by
  have hlt0 := hlt
  rcases hlt with _ | hlt | hlt | hlt
  cases hlt
  refine' enter_ (n := 7) ["work", "order", "hooks"] ["word", "keys"] [("do_part", .ref 252), ("do_deed", .ref 259), ("do_other", .ref 266)] hA O hl ?ho ?hcd ?hc ?hg ?hlen ?hbind ?_
  case ho => k_is
  case hcd => k_is
  case hc => decide +kernel
  case hg => exact (List.forall_mem_cons.mpr ⟨gl_do_part w, (List.forall_mem_cons.mpr ⟨gl_do_deed w, (List.forall_mem_cons.mpr ⟨gl_do_other w, (fun _ h => nomatch h)⟩)⟩)⟩)
  case hlen => rfl
  case hbind => exact BindsTo.of_eq rfl
  intro env s' q1 q2 F G hA'
  simp only [l0, List.zip, List.zipWith, List.map, List.nil_append, List.cons_append] at F
  have hh := hA'.hd
  repeat k_all
  rename Fm _ _ _ _ _ _ _ _ _ => F; refine itemT_ (F.tupR ho) (by decide) rfl (Nat.le_of_ble_eq_true rfl) ?_
  repeat k_all
  rename Fm _ _ _ _ _ _ _ _ _ => F; refine nt_ F ?_ (Nat.le_of_ble_eq_true rfl); clear F; intro z s_z F hn_z; (repeat k_all); rename Fm _ _ _ _ _ _ _ _ _ => F; (first | refine inTt_ F .head (by repeat constructor) (by decide) ?_ | refine inTf_ F .head (by repeat constructor) (by decide) ?_); have F9 := F.drop; clear F; rename Fm _ _ _ _ _ _ _ _ _ => F; (repeat k_all)
  rename Fm _ _ _ _ _ _ _ _ _ => F; refine nt_ F ?_ (Nat.le_of_ble_eq_true rfl); clear F; intro z s_z F hn_z; (repeat k_all); rename Fm _ _ _ _ _ _ _ _ _ => F; (first | refine inTt_ F .head (by repeat constructor) (by decide) ?_ | refine inTf_ F .head (by repeat constructor) (by decide) ?_); have F9 := F.drop; clear F; rename Fm _ _ _ _ _ _ _ _ _ => F; (repeat k_all)
  rename Fm _ _ _ _ _ _ _ _ _ => F; refine nt_ F ?_ (Nat.le_of_ble_eq_true rfl); clear F; intro z s_z F hn_z; (repeat k_all); rename Fm _ _ _ _ _ _ _ _ _ => F; (first | refine inTt_ F .head (by repeat constructor) (by decide) ?_ | refine inTf_ F .head (by repeat constructor) (by decide) ?_); have F9 := F.drop; clear F; rename Fm _ _ _ _ _ _ _ _ _ => F; (repeat k_all)
  rename Fm _ _ _ _ _ _ _ _ _ => F
  refine other_double hA' F.out.ok (F.front (l1 := [_, _, _])) hx hw H hN hnl hst hz ho hlt0 hneed ?_
  intro s8 R8 od8 sb8 vs8 n8 nvs8 kn8 P8 le8 hw8 hst8 hN8
  have F8 := F.after3 P8
  clear F
  repeat k_all
  rename Fm _ _ _ _ _ _ _ _ _ => F
  exact h _ _ _ _ _ _ _ _ F.post le8 hw8 hst8 hN8
end

-- LM
theorem hS_replies (w : World) : SetsK (hd.heap_1 w.params) 227 "replies" := ⟨by k_is, by k_is, by k_is, by k_is⟩
theorem hS_labels (w : World) : SetsK (hd.heap_1 w.params) 227 "labels" := ⟨by k_is, by k_is, by k_is, by k_is⟩
theorem hS_notes (w : World) : SetsK (hd.heap_1 w.params) 227 "notes" := ⟨by k_is, by k_is, by k_is, by k_is⟩
section
variable {prog : Program} {w : World} {s : Shared} {R : Imm} {A : Around} {E : Value → Shared → Prop}
theorem initW_ {x dx : Addr} {Rr : Result → Shared → Prop} (hA : Rm 2 A) (O : Ok (hd.heap_1 w.params) R s) (hl : Led R [(dx, emptyDict)] s) (hx : R x = some (instObj 80 dx))
    (h : ∀ s' od sa ga, WorkD od (.ref sa) (.ref ga) .none .none → Post (hd.heap_1 w.params) s [dx] R R [(dx, od), (sa, listOf #[] 0), (ga, listOf #[] 0)] s' → Rr (.ok (.ret .none)) s') :
    codeAny (model prog w) A (.call (.ref 56) ⟨[.ref x], []⟩) Rr s := by
  refine' enterC_ (n := 1) ["self"] [] [] hA O hl ?ho ?hcd ?hc ?hg ?hlen ?hbind ?_
  case ho => k_is
  case hcd => k_is
  case hc => decide +kernel
  case hg => exact (fun _ h => nomatch h)
  case hlen => rfl
  case hbind => exact BindsTo.of_eq rfl
  intro env s' q1 q2 F G hA'
  simp only [l0, List.zip, List.zipWith, List.map, List.nil_append, List.cons_append] at F
  have hh := hA'.hd
  repeat k_all
  rename Fm _ _ _ _ _ _ _ _ _ => F; refine nl_ F ?_ (Nat.le_of_ble_eq_true rfl); clear F; intro sa s_sa F hn_sa
  repeat k_all
  rename Fm _ _ _ _ _ _ _ _ _ => F; refine setA_ (es := []) (n := 0) (led' := fun o' => [(sa, listOf #[] 0), (dx, o')]) F hx (fun o' => .tail .head) (wS_stack w) rfl (Nat.le_of_ble_eq_true rfl) ?_; clear F; intro k1 t1 n1 s1 F
  repeat k_all
  rename Fm _ _ _ _ _ _ _ _ _ => F; refine nl_ F ?_ (Nat.le_of_ble_eq_true rfl); clear F; intro ga s_ga F hn_ga
  repeat k_all
  rename Fm _ _ _ _ _ _ _ _ _ => F; refine setA_ (led' := fun o' => [(ga, listOf #[] 0), (sa, listOf #[] 0), (dx, o')]) F hx (fun o' => .tail (.tail .head)) (wS_guards w) rfl (Nat.le_of_ble_eq_true rfl) ?_; clear F; intro k2 t2 n2 s2 F
  repeat k_all
  rename Fm _ _ _ _ _ _ _ _ _ => F; refine setA_ (led' := fun o' => [(ga, listOf #[] 0), (sa, listOf #[] 0), (dx, o')]) F hx (fun o' => .tail (.tail .head)) (wS_found w) rfl (Nat.le_of_ble_eq_true rfl) ?_; clear F; intro k3 t3 n3 s3 F
  repeat k_all
  rename Fm _ _ _ _ _ _ _ _ _ => F; refine setA_ (led' := fun o' => [(ga, listOf #[] 0), (sa, listOf #[] 0), (dx, o')]) F hx (fun o' => .tail (.tail .head)) (wS_goal w) rfl (Nat.le_of_ble_eq_true rfl) ?_; clear F; intro k4 t4 n4 s4 F
  repeat k_all
  rename Fm _ _ _ _ _ _ _ _ _ => F
  have F := F.rot3
  have F := F.rot3.rot3'
  have F9 := F.perm (led' := [(dx, _), (sa, listOf #[] 0), (ga, listOf #[] 0)]) ((List.Perm.swap _ _ []).cons _)
  exact h _ _ _ _ ⟨k1, t1, k2, t2, k3, t3, k4, t4, _, rfl⟩ F9.post
theorem initH_ {x dx lam lb : Addr} {Rr : Result → Shared → Prop} (hA : Rm 2 A) (O : Ok (hd.heap_1 w.params) R s) (hl : Led R [(dx, emptyDict)] s) (hx : R x = some (instObj 227 dx))
    (h : ∀ s' h1 t1 h2 t2 h3 t3 lv nv n, Post (hd.heap_1 w.params) s [dx] R R [(dx, dictOf [⟨h1, .str "replies" t1, .ref lam⟩, ⟨h2, .str "labels" t2, lv⟩, ⟨h3, .str "notes" t3, nv⟩] n)] s' → Rr (.ok (.ret .none)) s') :
    codeAny (model prog w) A (.call (.ref 98) ⟨[.ref x, .ref lam, .ref lb], []⟩) Rr s := by
  refine' enterC_ (n := 1) ["self", "replies", "labels"] [] [] hA O hl ?ho ?hcd ?hc ?hg ?hlen ?hbind ?_
  case ho => k_is
  case hcd => k_is
  case hc => decide +kernel
  case hg => exact (fun _ h => nomatch h)
  case hlen => rfl
  case hbind => exact BindsTo.of_eq rfl
  intro env s' q1 q2 F G hA'
  simp only [l0, List.zip, List.zipWith, List.map, List.nil_append, List.cons_append] at F
  have hh := hA'.hd
  repeat k_all
  rename Fm _ _ _ _ _ _ _ _ _ => F; refine setA_ (es := []) (n := 0) (led' := fun o' => [(dx, o')]) F hx (fun o' => .head) (hS_replies w) rfl (Nat.le_of_ble_eq_true rfl) ?_; clear F; intro k1 t1 n1 s1 F
  repeat k_all
  rename Fm _ _ _ _ _ _ _ _ _ => F; refine setA_ (led' := fun o' => [(dx, o')]) F hx (fun o' => .head) (hS_labels w) rfl (Nat.le_of_ble_eq_true rfl) ?_; clear F; intro k2 t2 n2 s2 F
  repeat k_all
  rename Fm _ _ _ _ _ _ _ _ _ => F; refine nl_ F ?_ (Nat.le_of_ble_eq_true rfl); clear F; intro nb s_nb F hn_nb
  repeat k_all
  rename Fm _ _ _ _ _ _ _ _ _ => F; refine setA_ (led' := fun o' => [(nb, listOf #[] 0), (dx, o')]) F hx (fun o' => .tail .head) (hS_notes w) rfl (Nat.le_of_ble_eq_true rfl) ?_; clear F; intro k3 t3 n3 s3 F
  repeat k_all
  rename Fm _ _ _ _ _ _ _ _ _ => F
  exact h _ _ _ _ _ _ _ _ _ _ F.drop.post
end

-- LR0
inductive FO where
  | sim (o : Sim) | guard (n : Nat) | unguard | fail | mat | asg | rep
inductive FOR (R : Imm) : Value → FO → Prop
  | sim {a vs k o} : R a = some (tupOf vs.toArray k) → LitsAre vs (Sim.lits o) → FOR R (.ref a) (.sim o)
  | guard {a : Addr} {t u : Tok} {k n : Nat} : R a = some (tupOf #[.str "GUARD" t, .int n u] k) → FOR R (.ref a) (.guard n)
  | unguard {a t k} : R a = some (tupOf #[.str "UNGUARD" t] k) → FOR R (.ref a) .unguard
  | fail {a t k} : R a = some (tupOf #[.str "FAIL" t] k) → FOR R (.ref a) .fail
  | mat {a t k} : R a = some (tupOf #[.str "MATCH" t] k) → FOR R (.ref a) .mat
  | asg {a t k} : R a = some (tupOf #[.str "ASSIGN" t] k) → FOR R (.ref a) .asg
  | rep {a t k} : R a = some (tupOf #[.str "REPLACE" t] k) → FOR R (.ref a) .rep
theorem FOR.mono {R R' : Imm} {v : Value} {o : FO} (k : Le R R') (h : FOR R v o) : FOR R' v o := by
  cases h with
  | sim h1 h2 => exact .sim (k _ _ h1) h2
  | guard h1 => exact .guard (k _ _ h1)
  | unguard h1 => exact .unguard (k _ _ h1)
  | fail h1 => exact .fail (k _ _ h1)
  | mat h1 => exact .mat (k _ _ h1)
  | asg h1 => exact .asg (k _ _ h1)
  | rep h1 => exact .rep (k _ _ h1)
noncomputable def Sim.word : Sim → Str
  | .var _ => "VAR" | .push _ => "PUSH" | .ref _ => "REF" | .kw _ => "KEYWORD" | .del _ => "DELAYED" | .un _ => "UNARY" | .value => "VALUE" | .indirect => "INDIRECT" | .cursor => "CURSOR"
  | .call _ _ _ => "CALL" | .double => "DOUBLE" | .item _ _ => "ITEM" | .bin _ => "BINARY" | .join => "JOIN" | .given _ => "GIVEN"
theorem lits_word (o : Sim) : ∃ rest, Sim.lits o = .s o.word :: rest ∧ rest.length ≤ 3 := by
  cases o <;> exact ⟨_, rfl, Nat.le_of_ble_eq_true rfl⟩
theorem LitsAre.len {vs : List Value} {ls : List Lit} (h : LitsAre vs ls) : vs.length = ls.length := by
  induction h with
  | nil => rfl
  | s _ ih => rw [List.length_cons, List.length_cons, ih]
  | i _ ih => rw [List.length_cons, List.length_cons, ih]
  | b _ ih => rw [List.length_cons, List.length_cons, ih]
theorem LitsAre.str_head {vs : List Value} {x : Str} {ls : List Lit} (h : LitsAre vs (.s x :: ls)) : ∃ t us, vs = .str x t :: us := by
  cases h; exact ⟨_, _, rfl⟩
theorem LitsAre.word {ovs : List Value} {o : Sim} (h : LitsAre ovs (Sim.lits o)) : ∃ t rest, ovs = .str o.word t :: rest ∧ ovs.length ≤ 10 := by
  obtain ⟨r, e, hr⟩ := lits_word o
  rw [e] at h
  have hl := h.len
  obtain ⟨t, us, rfl⟩ := h.str_head
  exact ⟨t, us, rfl, by rw [hl, List.length_cons]; omega⟩
theorem word_guard {o : Sim} : o.word ≠ Str.ofString "GUARD" := by cases o <;> (simp only [Sim.word]; decide)
theorem FOR.head {R : Imm} {v : Value} {o : FO} (h : FOR R v o) (hg : ∀ n, o ≠ .guard n) : ∃ a ovs k word t, v = .ref a ∧ R a = some (tupOf (Value.str word t :: ovs).toArray k) ∧ word ≠ Str.ofString "GUARD" ∧ (Value.str word t :: ovs).length < 1000 := by
  cases h with
  | sim h1 h2 =>
    obtain ⟨t, rest, rfl, hl⟩ := LitsAre.word h2
    exact ⟨_, rest, _, _, t, rfl, h1, word_guard, by omega⟩
  | guard h1 => exact absurd rfl (hg _)
  | unguard h1 => exact ⟨_, [], _, _, _, rfl, h1, by decide, Nat.le_of_ble_eq_true rfl⟩
  | fail h1 => exact ⟨_, [], _, _, _, rfl, h1, by decide, Nat.le_of_ble_eq_true rfl⟩
  | mat h1 => exact ⟨_, [], _, _, _, rfl, h1, by decide, Nat.le_of_ble_eq_true rfl⟩
  | asg h1 => exact ⟨_, [], _, _, _, rfl, h1, by decide, Nat.le_of_ble_eq_true rfl⟩
  | rep h1 => exact ⟨_, [], _, _, _, rfl, h1, by decide, Nat.le_of_ble_eq_true rfl⟩
inductive FOsR (R : Imm) : List Value → List FO → Prop
  | nil : FOsR R [] []
  | cons {v o vs os} : FOR R v o → FOsR R vs os → FOsR R (v :: vs) (o :: os)
theorem FOsR.mono {R R' : Imm} {vs : List Value} {os : List FO} (k : Le R R') (h : FOsR R vs os) : FOsR R' vs os := by
  induction h with
  | nil => exact .nil
  | cons h _ ih => exact .cons (h.mono k) ih
theorem FOsR.length {R : Imm} {vs : List Value} {os : List FO} (h : FOsR R vs os) : vs.length = os.length := by
  induction h with
  | nil => rfl
  | cons _ _ ih => rw [List.length_cons, List.length_cons, ih]
theorem FOsR.app {R : Imm} {vs us : List Value} {os ps : List FO} (h : FOsR R vs os) (h' : FOsR R us ps) : FOsR R (vs ++ us) (os ++ ps) := by
  induction h with
  | nil => exact h'
  | cons h _ ih => exact .cons h ih
theorem FOsR.get {R : Imm} {vs : List Value} {os : List FO} (h : FOsR R vs os) {i : Nat} {o : FO} (ho : os[i]? = some o) : ∃ v, vs[i]? = some v ∧ FOR R v o := by
  induction h generalizing i with
  | nil => simp at ho
  | cons h _ ih =>
    cases i with
    | zero => simp at ho; subst ho; exact ⟨_, rfl, h⟩
    | succ i => simp at ho ⊢; exact ih ho
inductive GR (R : Imm) : Value → Nat × Nat → Prop
  | mk {a : Addr} {p h : Nat} {t u : Tok} {k : Nat} : R a = some (tupOf #[.int p t, .int h u] k) → GR R (.ref a) (p, h)
inductive GsR (R : Imm) : List Value → List (Nat × Nat) → Prop
  | nil : GsR R [] []
  | cons {v g vs gs} : GR R v g → GsR R vs gs → GsR R (v :: vs) (g :: gs)
theorem GR.mono {R R' : Imm} {v : Value} {g : Nat × Nat} (k : Le R R') (h : GR R v g) : GR R' v g := by
  cases h with | mk h => exact .mk (k _ _ h)
theorem GsR.mono {R R' : Imm} {vs : List Value} {gs : List (Nat × Nat)} (k : Le R R') (h : GsR R vs gs) : GsR R' vs gs := by
  induction h with
  | nil => exact .nil
  | cons h _ ih => exact .cons (h.mono k) ih
theorem GsR.snoc {R : Imm} {vs : List Value} {gs : List (Nat × Nat)} {v : Value} {g : Nat × Nat} (h : GsR R vs gs) (h' : GR R v g) : GsR R (vs ++ [v]) (gs ++ [g]) := by
  induction h with
  | nil => exact .cons h' .nil
  | cons h _ ih => exact .cons h ih
theorem GsR.length {R : Imm} {vs : List Value} {gs : List (Nat × Nat)} (h : GsR R vs gs) : vs.length = gs.length := by
  induction h with
  | nil => rfl
  | cons _ _ ih => rw [List.length_cons, List.length_cons, ih]
theorem GsR.unsnoc {R : Imm} {vs : List Value} {gs : List (Nat × Nat)} {g : Nat × Nat} (h : GsR R vs (gs ++ [g])) : ∃ us v, vs = us ++ [v] ∧ GsR R us gs ∧ GR R v g := by
  induction gs generalizing vs with
  | nil =>
    rcases h with _ | ⟨h1, h2⟩
    cases h2
    exact ⟨[], _, rfl, .nil, h1⟩
  | cons g0 gs ih =>
    rcases h with _ | ⟨h1, h2⟩
    obtain ⟨us, v, rfl, a, b⟩ := ih h2
    exact ⟨_ :: us, v, rfl, .cons h1 a, b⟩
/-- an order is in its place -/
structure Fits (o : Sim) (st : List Str) (ns : List Note) : Prop where
  need : o.need ≤ st.length
  len : st.length ≤ 900
  notes : ns.length ≤ 80000
  said : o.quiet = false → SaidOk (o.asks (under o st)).1 (o.asks (under o st)).2
noncomputable def FoV : Option Int → Value → Prop
  | none, v => v = .none
  | some n, v => ∃ t, v = .int n t
noncomputable def Fo.part : Option Int → List Part
  | none => []
  | some n => [.i n]
/-- what the flat orders do -/
inductive Runs (fs : List FO) : Nat → List Str → List (Nat × Nat) → Option Int → List Note → Option (List Str × List (Nat × Nat)) → List Note → Prop
  | done {at_ st gs f ns} : fs.length = at_ → Runs fs at_ st gs f ns (some (st, gs)) ns
  | guard {at_ st gs f ns r ns' n} : fs[at_]? = some (.guard n) → st.length ≤ 900 → gs.length ≤ 900 → Runs fs (at_ + 1) st (gs ++ [(at_ + n, st.length)]) f ns r ns' → Runs fs at_ st gs f ns r ns'
  | ok {at_ st gs f ns o st' ns1 r ns'} : fs[at_]? = some (.sim o) → Fits o st ns → gs.length ≤ 900 → step o st ns = (some st', ns1) → Runs fs (at_ + 1) st' gs f ns1 r ns' → Runs fs at_ st gs f ns r ns'
  | unguard {at_ st gs g f ns r ns'} : fs[at_]? = some .unguard → st.length ≤ 900 → gs.length ≤ 900 → Runs fs (at_ + 1) st gs f ns r ns' → Runs fs at_ st (gs ++ [g]) f ns r ns'
  | bad0 {at_ st f ns o ns'} : fs[at_]? = some (.sim o) → Fits o st ns → step o st ns = (none, ns') → Runs fs at_ st [] f ns none ns'
  | badG {at_ st gs p h f ns o ns1 r ns'} : fs[at_]? = some (.sim o) → Fits o st ns → step o st ns = (none, ns1) → gs.length ≤ 900 → Runs fs p ((base o st).take h) gs f ns1 r ns' → Runs fs at_ st (gs ++ [(p, h)]) f ns r ns'
  | failG {at_ st gs p h f ns r ns'} : fs[at_]? = some .fail → st.length ≤ 900 → gs.length ≤ 900 → Runs fs p (st.take h) gs f ns r ns' → Runs fs at_ st (gs ++ [(p, h)]) f ns r ns'
  | fail0 {at_ st f ns} : fs[at_]? = some .fail → st.length ≤ 900 → Runs fs at_ st [] f ns none ns
  | mat {at_ b u o n f ns r ns'} : fs[at_]? = some .mat → b.length ≤ 800 → ns.length ≤ 80000 → SaidOk "match" [.s u, .s o] → ans "match" [.s u, .s o] = .i n → Runs fs (at_ + 1) b [] (some n) (ns ++ [(("match", [.s u, .s o]) : Note)]) r ns' → Runs fs at_ (b ++ [u, o]) [] f ns r ns'
  | mat0 {at_ b u o f ns} : fs[at_]? = some .mat → b.length ≤ 800 → ns.length ≤ 80000 → SaidOk "match" [.s u, .s o] → ans "match" [.s u, .s o] = .none → Runs fs at_ (b ++ [u, o]) [] f ns none (ns ++ [(("match", [.s u, .s o]) : Note)])
  | asg {at_ b u o f ns r ns'} : fs[at_]? = some .asg → b.length ≤ 800 → ns.length ≤ 80000 → SaidOk "assign" [.s u, .s o] → Runs fs (at_ + 1) b [] f (ns ++ [(("assign", [.s u, .s o]) : Note)]) r ns' → Runs fs at_ (b ++ [u, o]) [] f ns r ns'
  | rep {at_ b u o n ns r ns'} : fs[at_]? = some .rep → b.length ≤ 800 → ns.length ≤ 80000 → SaidOk "replace" [.s u, .i n, .s o] → Runs fs (at_ + 1) b [] (some n) (ns ++ [(("replace", [.s u, .i n, .s o]) : Note)]) r ns' → Runs fs at_ (b ++ [u, o]) [] (some n) ns r ns'

section
variable {prog : Program} {w : World} {s : Shared} {R R1 : Imm} {A : Around} {E : Value → Shared → Prop} {hk lam th x dx sa ga oa : Addr} {nvs vs ovs gvs : List Value} {n k kn gn : Nat} {ns : List Note} {st : List Str} {od : Obj} {fo go : Value} {Q : Value → Shared → Prop}

theorem order_sim (o : Sim) (hA : Rm 8 A) (O : Ok (hd.heap_1 w.params) R s) (hl : Led R [(dx, od), (sa, listOf vs.toArray n), (th, listOf nvs.toArray kn)] s) (hx : R x = some (instObj 80 dx)) (hw : WorkD od (.ref sa) (.ref ga) fo go) (H : HK prog w R1 R hk lam th)
    (hN : NotesR R nvs ns) (hst : StrsAre vs st) (ho : R oa = some (tupOf ovs.toArray k)) (hlt : LitsAre ovs (Sim.lits o)) (hf : Fits o st ns)
    (h : StK w s [dx, sa, th] R dx th (.ref ga) fo go Q (step o st ns).1 (base o st) (step o st ns).2) :
    wpAny (model prog w) A (call (.ref 245) [.ref x, .ref oa, .ref hk]) Q E s := by
  obtain ⟨f1, f2, f3, f4⟩ := hf
  have g3 : ns.length ≤ 90000 := by omega
  have g2 : st.length ≤ 1000 := by omega
  cases o with
  | var y => exact order_var hA O hl hx hw H hN g3 hst g2 ho hlt f1 (f4 rfl) h
  | push y => exact order_push hA O hl hx hw H hN g3 hst g2 ho hlt f1 h
  | ref y => exact order_ref hA O hl hx hw H hN g3 hst g2 ho hlt f1 (f4 rfl) h
  | kw y => exact order_kw hA O hl hx hw H hN g3 hst g2 ho hlt f1 (f4 rfl) h
  | del y => exact order_del hA O hl hx hw H hN g3 hst g2 ho hlt f1 (f4 rfl) h
  | un y => exact order_un hA O hl hx hw H hN g3 hst g2 ho hlt f1 (f4 rfl) h
  | value => exact order_value hA O hl hx hw H hN g3 hst g2 ho hlt f1 (f4 rfl) h
  | indirect => exact order_indirect hA O hl hx hw H hN g3 hst g2 ho hlt f1 (f4 rfl) h
  | cursor => exact order_cursor hA O hl hx hw H hN g3 hst g2 ho hlt f1 (f4 rfl) h
  | call f m c => exact order_call hA O hl hx hw H hN g3 hst g2 ho hlt f1 (f4 rfl) h
  | double => exact order_double hA O hl hx hw H hN g3 hst g2 ho hlt f1 h
  | item m c => exact order_item hA O hl hx hw H hN g3 hst g2 ho hlt f1 (f4 rfl) h
  | bin y => exact order_bin hA O hl hx hw H hN g3 hst g2 ho hlt f1 (f4 rfl) h
  | join => exact order_join hA O hl hx hw H hN g3 hst g2 ho hlt f1 (f4 rfl) h
  | given y => exact order_given hA O hl hx hw H hN g3 hst g2 ho hlt f1 (f4 rfl) h

theorem other_unguard {g : Value} {t : Tok} {sv : Value} (hA : Rm 7 A) (O : Ok (hd.heap_1 w.params) R s) (hl : Led R [(dx, od), (ga, listOf (gvs ++ [g]).toArray gn)] s) (hx : R x = some (instObj 80 dx)) (hw : WorkD od sv (.ref ga) fo go)
    (hz : gvs.length ≤ 1000) (ho : R oa = some (tupOf #[.str "UNGUARD" t] k))
    (h : ∀ s' gn', Post (hd.heap_1 w.params) s [dx, ga] R R [(dx, od), (ga, listOf gvs.toArray gn')] s' → Q (.bool true) s') :
    wpAny (model prog w) A (call (.ref 266) [.ref x, .ref oa, .ref hk]) Q E s := by
  refine' enter_ (n := 6) ["work", "order", "hooks"] ["word"] [] hA O hl ?ho ?hcd ?hc ?hg ?hlen ?hbind ?_
  case ho => k_is
  case hcd => k_is
  case hc => decide +kernel
  case hg => exact (fun _ h => nomatch h)
  case hlen => rfl
  case hbind => exact BindsTo.of_eq rfl
  intro env s' q1 q2 F G hA'
  simp only [l0, List.zip, List.zipWith, List.map, List.nil_append, List.cons_append] at F
  have hh := hA'.hd
  repeat k_all
  rename Fm _ _ _ _ _ _ _ _ _ => F; refine itemT_ (its := [_]) (F.tupR ho) (by decide) rfl (Nat.le_of_ble_eq_true rfl) ?_
  repeat k_all
  rename Fm _ _ _ _ _ _ _ _ _ => F; refine ex_ F ?_ (by with_unfolding_all rfl)
  repeat k_all
  rename Fm _ _ _ _ _ _ _ _ _ => F; refine wattr_ F hx hw .head (wG_guards w) (by intros; rfl) rfl ?_; clear F; intro s3 F
  repeat k_all
  rename Fm _ _ _ _ _ _ _ _ _ => F; refine pop_ F (.tail .head) (by omega) ?_; clear F; intro s4 F
  repeat k_all
  refine neT_ (by decide) ?_
  repeat k_all
  rename Fm _ _ _ _ _ _ _ _ _ => F
  exact h _ _ F.post
theorem order_unguard {g : Value} {t : Tok} {sv : Value} (hA : Rm 8 A) (O : Ok (hd.heap_1 w.params) R s) (hl : Led R [(dx, od), (ga, listOf (gvs ++ [g]).toArray gn)] s) (hx : R x = some (instObj 80 dx)) (hw : WorkD od sv (.ref ga) fo go)
    (hz : gvs.length ≤ 1000) (ho : R oa = some (tupOf #[.str "UNGUARD" t] k))
    (h : ∀ s' gn', Post (hd.heap_1 w.params) s [dx, ga] R R [(dx, od), (ga, listOf gvs.toArray gn')] s' → Q (.bool true) s') :
    wpAny (model prog w) A (call (.ref 245) [.ref x, .ref oa, .ref hk]) Q E s := by
  refine' enter_ (n := 7) ["work", "order", "hooks"] ["word", "keys"] [("do_part", .ref 252), ("do_deed", .ref 259), ("do_other", .ref 266)] hA O hl ?ho ?hcd ?hc ?hg ?hlen ?hbind ?_
  case ho => k_is
  case hcd => k_is
  case hc => decide +kernel
  case hg => exact (List.forall_mem_cons.mpr ⟨gl_do_part w, (List.forall_mem_cons.mpr ⟨gl_do_deed w, (List.forall_mem_cons.mpr ⟨gl_do_other w, (fun _ h => nomatch h)⟩)⟩)⟩)
  case hlen => rfl
  case hbind => exact BindsTo.of_eq rfl
  intro env s' q1 q2 F G hA'
  simp only [l0, List.zip, List.zipWith, List.map, List.nil_append, List.cons_append] at F
  have hh := hA'.hd
  repeat k_all
  rename Fm _ _ _ _ _ _ _ _ _ => F; refine itemT_ (its := [_]) (F.tupR ho) (by decide) rfl (Nat.le_of_ble_eq_true rfl) ?_
  repeat k_all
  rename Fm _ _ _ _ _ _ _ _ _ => F; refine nt_ F ?_ (Nat.le_of_ble_eq_true rfl); clear F; intro z s_z F hn_z; (repeat k_all); rename Fm _ _ _ _ _ _ _ _ _ => F; (first | refine inTt_ F .head (by repeat constructor) (by decide) ?_ | refine inTf_ F .head (by repeat constructor) (by decide) ?_); have F9 := F.drop; clear F; rename Fm _ _ _ _ _ _ _ _ _ => F; (repeat k_all)
  rename Fm _ _ _ _ _ _ _ _ _ => F; refine nt_ F ?_ (Nat.le_of_ble_eq_true rfl); clear F; intro z s_z F hn_z; (repeat k_all); rename Fm _ _ _ _ _ _ _ _ _ => F; (first | refine inTt_ F .head (by repeat constructor) (by decide) ?_ | refine inTf_ F .head (by repeat constructor) (by decide) ?_); have F9 := F.drop; clear F; rename Fm _ _ _ _ _ _ _ _ _ => F; (repeat k_all)
  rename Fm _ _ _ _ _ _ _ _ _ => F; refine nt_ F ?_ (Nat.le_of_ble_eq_true rfl); clear F; intro z s_z F hn_z; (repeat k_all); rename Fm _ _ _ _ _ _ _ _ _ => F; (first | refine inTt_ F .head (by repeat constructor) (by decide) ?_ | refine inTf_ F .head (by repeat constructor) (by decide) ?_); have F9 := F.drop; clear F; rename Fm _ _ _ _ _ _ _ _ _ => F; (repeat k_all)
  rename Fm _ _ _ _ _ _ _ _ _ => F
  refine other_unguard hA' F.out.ok (F.front (l1 := [_, _])) hx hw hz ho ?_
  intro s8 gn8 P8
  have F8 := F.after2 P8
  clear F
  repeat k_all
  rename Fm _ _ _ _ _ _ _ _ _ => F
  exact h _ _ F.post
theorem other_fail {t : Tok} (hA : Rm 7 A) (O : Ok (hd.heap_1 w.params) R s) (ho : R oa = some (tupOf #[.str "FAIL" t] k))
    (h : ∀ s', Post (hd.heap_1 w.params) s [] R R [] s' → Q (.bool false) s') :
    wpAny (model prog w) A (call (.ref 266) [.ref x, .ref oa, .ref hk]) Q E s := by
  refine' enter_ (n := 6) (led := []) ["work", "order", "hooks"] ["word"] [] hA O Led.nil ?ho ?hcd ?hc ?hg ?hlen ?hbind ?_
  case ho => k_is
  case hcd => k_is
  case hc => decide +kernel
  case hg => exact (fun _ h => nomatch h)
  case hlen => rfl
  case hbind => exact BindsTo.of_eq rfl
  intro env s' q1 q2 F G hA'
  simp only [l0, List.zip, List.zipWith, List.map, List.nil_append, List.cons_append] at F
  have hh := hA'.hd
  repeat k_all
  rename Fm _ _ _ _ _ _ _ _ _ => F; refine itemT_ (its := [_]) (F.tupR ho) (by decide) rfl (Nat.le_of_ble_eq_true rfl) ?_
  repeat k_all
  refine neF_ ?_
  repeat k_all
  rename Fm _ _ _ _ _ _ _ _ _ => F
  exact h _ F.post
theorem order_fail {t : Tok} (hA : Rm 8 A) (O : Ok (hd.heap_1 w.params) R s) (ho : R oa = some (tupOf #[.str "FAIL" t] k))
    (h : ∀ s', Post (hd.heap_1 w.params) s [] R R [] s' → Q (.bool false) s') :
    wpAny (model prog w) A (call (.ref 245) [.ref x, .ref oa, .ref hk]) Q E s := by
  refine' enter_ (n := 7) (led := []) ["work", "order", "hooks"] ["word", "keys"] [("do_part", .ref 252), ("do_deed", .ref 259), ("do_other", .ref 266)] hA O Led.nil ?ho ?hcd ?hc ?hg ?hlen ?hbind ?_
  case ho => k_is
  case hcd => k_is
  case hc => decide +kernel
  case hg => exact (List.forall_mem_cons.mpr ⟨gl_do_part w, (List.forall_mem_cons.mpr ⟨gl_do_deed w, (List.forall_mem_cons.mpr ⟨gl_do_other w, (fun _ h => nomatch h)⟩)⟩)⟩)
  case hlen => rfl
  case hbind => exact BindsTo.of_eq rfl
  intro env s' q1 q2 F G hA'
  simp only [l0, List.zip, List.zipWith, List.map, List.nil_append, List.cons_append] at F
  have hh := hA'.hd
  repeat k_all
  rename Fm _ _ _ _ _ _ _ _ _ => F; refine itemT_ (its := [_]) (F.tupR ho) (by decide) rfl (Nat.le_of_ble_eq_true rfl) ?_
  repeat k_all
  rename Fm _ _ _ _ _ _ _ _ _ => F; refine nt_ F ?_ (Nat.le_of_ble_eq_true rfl); clear F; intro z s_z F hn_z; (repeat k_all); rename Fm _ _ _ _ _ _ _ _ _ => F; (first | refine inTt_ F .head (by repeat constructor) (by decide) ?_ | refine inTf_ F .head (by repeat constructor) (by decide) ?_); have F9 := F.drop; clear F; rename Fm _ _ _ _ _ _ _ _ _ => F; (repeat k_all)
  rename Fm _ _ _ _ _ _ _ _ _ => F; refine nt_ F ?_ (Nat.le_of_ble_eq_true rfl); clear F; intro z s_z F hn_z; (repeat k_all); rename Fm _ _ _ _ _ _ _ _ _ => F; (first | refine inTt_ F .head (by repeat constructor) (by decide) ?_ | refine inTf_ F .head (by repeat constructor) (by decide) ?_); have F9 := F.drop; clear F; rename Fm _ _ _ _ _ _ _ _ _ => F; (repeat k_all)
  rename Fm _ _ _ _ _ _ _ _ _ => F; refine nt_ F ?_ (Nat.le_of_ble_eq_true rfl); clear F; intro z s_z F hn_z; (repeat k_all); rename Fm _ _ _ _ _ _ _ _ _ => F; (first | refine inTt_ F .head (by repeat constructor) (by decide) ?_ | refine inTf_ F .head (by repeat constructor) (by decide) ?_); have F9 := F.drop; clear F; rename Fm _ _ _ _ _ _ _ _ _ => F; (repeat k_all)
  rename Fm _ _ _ _ _ _ _ _ _ => F
  refine other_fail hA' F.out.ok ho ?_
  intro s8 P8
  have F8 := F.after0 P8
  clear F
  repeat k_all
  rename Fm _ _ _ _ _ _ _ _ _ => F
  exact h _ F.post
theorem wsetStack_ {env : Env} {K : Frag} {se' : Shared} {S : List Addr} {R₀ : Imm} {l : List (Str × Option Value)} {led : Ledger} {led' : Obj → Ledger} {v sv gv : Value} {Q : Unit → Shared → Prop} (F : Fm K env se' S R₀ R l led s) (hx : R x = some (instObj 80 dx)) (hw : WorkD od sv gv fo go) (U : ∀ o', UpdL dx od o' led (led' o'))
    (G : SetsK K 80 "stack") (h : ∀ od' s', WorkD od' v gv fo go → Fm K env se' S R₀ R l (led' od') s' → Q () s') : wpAny (model prog w) A (setAttr (.ref x) "stack" v) Q E s := by
  obtain ⟨h1, t1, h2, t2, h3, t3, h4, t4, n, rfl⟩ := hw
  exact setA_ F hx U G rfl (Nat.le_of_ble_eq_true rfl) fun k t n' s' F' => h _ _ ⟨h1, t1, h2, t2, h3, t3, h4, t4, _, rfl⟩ F'
theorem wsetFound_ {env : Env} {K : Frag} {se' : Shared} {S : List Addr} {R₀ : Imm} {l : List (Str × Option Value)} {led : Ledger} {led' : Obj → Ledger} {v sv gv : Value} {Q : Unit → Shared → Prop} (F : Fm K env se' S R₀ R l led s) (hx : R x = some (instObj 80 dx)) (hw : WorkD od sv gv fo go) (U : ∀ o', UpdL dx od o' led (led' o'))
    (G : SetsK K 80 "found") (h : ∀ od' s', WorkD od' sv gv v go → Fm K env se' S R₀ R l (led' od') s' → Q () s') : wpAny (model prog w) A (setAttr (.ref x) "found" v) Q E s := by
  obtain ⟨h1, t1, h2, t2, h3, t3, h4, t4, n, rfl⟩ := hw
  exact setA_ F hx U G rfl (Nat.le_of_ble_eq_true rfl) fun k t n' s' F' => h _ _ ⟨h1, t1, h2, t2, h3, t3, h4, t4, _, rfl⟩ F'
end

-- LDd
section
variable {prog : Program} {w : World} {s : Shared} {R R1 : Imm} {A : Around} {E : Value → Shared → Prop} {hk lam th x dx sa ga oa : Addr} {nvs vs ovs : List Value} {n k kn : Nat} {ns : List Note} {st : List Str} {od : Obj} {fo go fv : Value} {b : List Str} {u o : Str} {f : Option Int} {t : Tok} {Q : Value → Shared → Prop}

theorem deed_mat (hA : Rm 7 A) (O : Ok (hd.heap_1 w.params) R s) (hl : Led R [(dx, od), (sa, listOf vs.toArray n), (th, listOf nvs.toArray kn)] s) (hx : R x = some (instObj 80 dx)) (hw : WorkD od (.ref sa) (.ref ga) fv .none) (H : HK prog w R1 R hk lam th)
    (hN : NotesR R nvs ns) (hnl : ns.length ≤ 80000) (hst : StrsAre vs (b ++ [u, o])) (hz : b.length ≤ 800) (hS : SaidOk "match" [.s u, .s o])
    (h : ∀ v s' R' od' sb fv' vs' n' nvs' kn', Post (hd.heap_1 w.params) s [dx, sa, th] R R' [(dx, od'), (sb, listOf vs'.toArray n'), (th, listOf nvs'.toArray kn')] s' → Le R R' → WorkD od' (.ref sb) (.ref ga) fv' .none → AnsV fv' (ans "match" [.s u, .s o]) ∧ v = .bool (!(fv' == .none)) → StrsAre vs' b → NotesR R' nvs' (ns ++ [(("match", [.s u, .s o]) : Note)]) → Q v s') :
    wpAny (model prog w) A (call (.ref 259) [.ref x, .str "MATCH" t, .ref hk]) Q E s := by
  refine' enter_ (n := 6) ["work", "word", "hooks"] ["under", "over"] [] hA O hl ?ho ?hcd ?hc ?hg ?hlen ?hbind ?_
  case ho => k_is
  case hcd => k_is
  case hc => decide +kernel
  case hg => exact (fun _ h => nomatch h)
  case hlen => rfl
  case hbind => exact BindsTo.of_eq rfl
  intro env s' q1 q2 F G hA'
  simp only [l0, List.zip, List.zipWith, List.map, List.nil_append, List.cons_append] at F
  have hh := hA'.hd
  repeat k_all
  refine Assign_Tuple ?_ (by with_unfolding_all rfl) (by with_unfolding_all rfl)
  repeat k_all
  rename Fm _ _ _ _ _ _ _ _ _ => F; refine wmeth_ F hx hw .head (wM_take w) (by intros; rfl) ?_
  repeat k_all
  rename Fm _ _ _ _ _ _ _ _ _ => F
  refine take_r (many := 2) (hA'.le (by decide)) F.out.ok (F.front (l1 := [_, _])) hx hw hst (by rw [List.length_append]; show b.length + 2 ≤ 1000; omega) (by rw [List.length_append]; show 2 ≤ b.length + 2; omega) ?_
  intro s4 od4 sb4 fa us4 ts4 hR_fa hw hb hts P4
  have e2 : (b ++ [u, o]).length - 2 = b.length := by rw [List.length_append]; rfl
  rw [e2, List.take_left] at hb
  rw [e2, List.drop_left] at hts
  rcases hts with _ | ⟨_, tu, hts⟩
  rcases hts with _ | ⟨_, to, hts⟩
  cases hts
  have F4 := F.after2 P4
  clear F
  have le4 := Le.put (o := listOf [Value.str u tu, Value.str o to].toArray 0) hR_fa
  have hx := le4 _ _ hx; have H := H.mono le4; have hN := hN.mono le4
  repeat k_all
  rename Fm _ _ _ _ _ _ _ _ _ => F
  refine unpackL2_ F hh (F.listR Imm.put_self) ?_
  clear F; intro s5 F
  repeat k_all
  rename Fm _ _ _ _ _ _ _ _ _ => F; refine hmeth_ F H (hM_matched w) (by intros; rfl) ?_
  repeat k_all
  rename Fm _ _ _ _ _ _ _ _ _ => F
  have F := F.rot3
  refine h_matched (hA'.le (by decide)) F.out.ok (F.front (l1 := [_])) hN (by omega) H.H H.L H.C H.le PartR.s PartR.s hS ?_
  intro v s6 R6 nvs6 kn6 P6 le6 hN6 hv6
  have F6 := (F.after1 P6).rot3'
  clear F
  have hx := le6 _ _ hx
  repeat k_all
  rename Fm _ _ _ _ _ _ _ _ _ => F
  refine wsetFound_ (led' := fun o' => [(dx, o'), (sb4, _), (th, _)]) F hx hw (fun o' => .head) (wS_found w) ?_
  clear F
  intro od7 s7 hw7 F
  repeat k_all
  rename Fm _ _ _ _ _ _ _ _ _ => F; refine wattr_ F hx hw7 .head (wG_found w) (by intros; rfl) (by cases ha : ans "match" [.s u, .s o] <;> rw [ha] at hv6 <;> (first | (obtain ⟨q, rfl⟩ := hv6; rfl) | (cases hv6; rfl))) ?_; clear F; intro s8 F
  repeat k_all
  refine isNotNone_ (by cases ha : ans "match" [.s u, .s o] <;> rw [ha] at hv6 <;> (first | (obtain ⟨q, rfl⟩ := hv6; rfl) | (cases hv6; rfl))) ?_
  repeat k_all
  rename Fm _ _ _ _ _ _ _ _ _ => F
  exact h _ _ _ _ _ _ _ _ _ _ F.post (le4.trans le6) hw7 ⟨hv6, rfl⟩ hb hN6
theorem deed_asg (hA : Rm 7 A) (O : Ok (hd.heap_1 w.params) R s) (hl : Led R [(dx, od), (sa, listOf vs.toArray n), (th, listOf nvs.toArray kn)] s) (hx : R x = some (instObj 80 dx)) (hw : WorkD od (.ref sa) (.ref ga) fv .none) (H : HK prog w R1 R hk lam th)
    (hN : NotesR R nvs ns) (hnl : ns.length ≤ 80000) (hst : StrsAre vs (b ++ [u, o])) (hz : b.length ≤ 800) (hS : SaidOk "assign" [.s u, .s o])
    (h : ∀ v s' R' od' sb fv' vs' n' nvs' kn', Post (hd.heap_1 w.params) s [dx, sa, th] R R' [(dx, od'), (sb, listOf vs'.toArray n'), (th, listOf nvs'.toArray kn')] s' → Le R R' → WorkD od' (.ref sb) (.ref ga) fv' .none → fv' = fv ∧ v = .bool true → StrsAre vs' b → NotesR R' nvs' (ns ++ [(("assign", [.s u, .s o]) : Note)]) → Q v s') :
    wpAny (model prog w) A (call (.ref 259) [.ref x, .str "ASSIGN" t, .ref hk]) Q E s := by
  refine' enter_ (n := 6) ["work", "word", "hooks"] ["under", "over"] [] hA O hl ?ho ?hcd ?hc ?hg ?hlen ?hbind ?_
  case ho => k_is
  case hcd => k_is
  case hc => decide +kernel
  case hg => exact (fun _ h => nomatch h)
  case hlen => rfl
  case hbind => exact BindsTo.of_eq rfl
  intro env s' q1 q2 F G hA'
  simp only [l0, List.zip, List.zipWith, List.map, List.nil_append, List.cons_append] at F
  have hh := hA'.hd
  repeat k_all
  refine Assign_Tuple ?_ (by with_unfolding_all rfl) (by with_unfolding_all rfl)
  repeat k_all
  rename Fm _ _ _ _ _ _ _ _ _ => F; refine wmeth_ F hx hw .head (wM_take w) (by intros; rfl) ?_
  repeat k_all
  rename Fm _ _ _ _ _ _ _ _ _ => F
  refine take_r (many := 2) (hA'.le (by decide)) F.out.ok (F.front (l1 := [_, _])) hx hw hst (by rw [List.length_append]; show b.length + 2 ≤ 1000; omega) (by rw [List.length_append]; show 2 ≤ b.length + 2; omega) ?_
  intro s4 od4 sb4 fa us4 ts4 hR_fa hw hb hts P4
  have e2 : (b ++ [u, o]).length - 2 = b.length := by rw [List.length_append]; rfl
  rw [e2, List.take_left] at hb
  rw [e2, List.drop_left] at hts
  rcases hts with _ | ⟨_, tu, hts⟩
  rcases hts with _ | ⟨_, to, hts⟩
  cases hts
  have F4 := F.after2 P4
  clear F
  have le4 := Le.put (o := listOf [Value.str u tu, Value.str o to].toArray 0) hR_fa
  have hx := le4 _ _ hx; have H := H.mono le4; have hN := hN.mono le4
  repeat k_all
  rename Fm _ _ _ _ _ _ _ _ _ => F
  refine unpackL2_ F hh (F.listR Imm.put_self) ?_
  clear F; intro s5 F
  repeat k_all
  rename Fm _ _ _ _ _ _ _ _ _ => F; refine ex_ F ?_ (by with_unfolding_all rfl)
  repeat k_all
  rename Fm _ _ _ _ _ _ _ _ _ => F; refine hmeth_ F H (hM_assign w) (by intros; rfl) ?_
  repeat k_all
  rename Fm _ _ _ _ _ _ _ _ _ => F
  have F := F.rot3
  refine h_assign (hA'.le (by decide)) F.out.ok (F.front (l1 := [_])) hN (by omega) H.H H.L H.C H.le PartR.s PartR.s hS ?_
  intro v s6 R6 nvs6 kn6 P6 le6 hN6 hv6
  have F6 := (F.after1 P6).rot3'
  clear F
  have hx := le6 _ _ hx
  repeat k_all
  rename Fm _ _ _ _ _ _ _ _ _ => F
  exact h _ _ _ _ _ _ _ _ _ _ F.post (le4.trans le6) hw ⟨rfl, rfl⟩ hb hN6
theorem deed_rep {m : Int} {tm : Tok} (hA : Rm 7 A) (O : Ok (hd.heap_1 w.params) R s) (hl : Led R [(dx, od), (sa, listOf vs.toArray n), (th, listOf nvs.toArray kn)] s) (hx : R x = some (instObj 80 dx)) (hw : WorkD od (.ref sa) (.ref ga) (.int m tm) .none) (H : HK prog w R1 R hk lam th)
    (hN : NotesR R nvs ns) (hnl : ns.length ≤ 80000) (hst : StrsAre vs (b ++ [u, o])) (hz : b.length ≤ 800) (hS : SaidOk "replace" [.s u, .i m, .s o])
    (h : ∀ v s' R' od' sb fv' vs' n' nvs' kn', Post (hd.heap_1 w.params) s [dx, sa, th] R R' [(dx, od'), (sb, listOf vs'.toArray n'), (th, listOf nvs'.toArray kn')] s' → Le R R' → WorkD od' (.ref sb) (.ref ga) fv' .none → fv' = .int m tm ∧ v = .bool true → StrsAre vs' b → NotesR R' nvs' (ns ++ [(("replace", [.s u, .i m, .s o]) : Note)]) → Q v s') :
    wpAny (model prog w) A (call (.ref 259) [.ref x, .str "REPLACE" t, .ref hk]) Q E s := by
  refine' enter_ (n := 6) ["work", "word", "hooks"] ["under", "over"] [] hA O hl ?ho ?hcd ?hc ?hg ?hlen ?hbind ?_
  case ho => k_is
  case hcd => k_is
  case hc => decide +kernel
  case hg => exact (fun _ h => nomatch h)
  case hlen => rfl
  case hbind => exact BindsTo.of_eq rfl
  intro env s' q1 q2 F G hA'
  simp only [l0, List.zip, List.zipWith, List.map, List.nil_append, List.cons_append] at F
  have hh := hA'.hd
  repeat k_all
  refine Assign_Tuple ?_ (by with_unfolding_all rfl) (by with_unfolding_all rfl)
  repeat k_all
  rename Fm _ _ _ _ _ _ _ _ _ => F; refine wmeth_ F hx hw .head (wM_take w) (by intros; rfl) ?_
  repeat k_all
  rename Fm _ _ _ _ _ _ _ _ _ => F
  refine take_r (many := 2) (hA'.le (by decide)) F.out.ok (F.front (l1 := [_, _])) hx hw hst (by rw [List.length_append]; show b.length + 2 ≤ 1000; omega) (by rw [List.length_append]; show 2 ≤ b.length + 2; omega) ?_
  intro s4 od4 sb4 fa us4 ts4 hR_fa hw hb hts P4
  have e2 : (b ++ [u, o]).length - 2 = b.length := by rw [List.length_append]; rfl
  rw [e2, List.take_left] at hb
  rw [e2, List.drop_left] at hts
  rcases hts with _ | ⟨_, tu, hts⟩
  rcases hts with _ | ⟨_, to, hts⟩
  cases hts
  have F4 := F.after2 P4
  clear F
  have le4 := Le.put (o := listOf [Value.str u tu, Value.str o to].toArray 0) hR_fa
  have hx := le4 _ _ hx; have H := H.mono le4; have hN := hN.mono le4
  repeat k_all
  rename Fm _ _ _ _ _ _ _ _ _ => F
  refine unpackL2_ F hh (F.listR Imm.put_self) ?_
  clear F; intro s5 F
  repeat k_all
  rename Fm _ _ _ _ _ _ _ _ _ => F; refine ex_ F ?_ (by with_unfolding_all rfl)
  repeat k_all
  rename Fm _ _ _ _ _ _ _ _ _ => F; refine hmeth_ F H (hM_replace w) (by intros; rfl) ?_
  repeat k_all
  rename Fm _ _ _ _ _ _ _ _ _ => F; refine wattr_ F hx hw .head (wG_found w) (by intros; rfl) rfl ?_; clear F; intro s9 F
  repeat k_all
  rename Fm _ _ _ _ _ _ _ _ _ => F
  have F := F.rot3
  refine h_replace (hA'.le (by decide)) F.out.ok (F.front (l1 := [_])) hN (by omega) H.H H.L H.C H.le PartR.s PartR.i PartR.s hS ?_
  intro v s6 R6 nvs6 kn6 P6 le6 hN6 hv6
  have F6 := (F.after1 P6).rot3'
  clear F
  have hx := le6 _ _ hx
  repeat k_all
  rename Fm _ _ _ _ _ _ _ _ _ => F
  exact h _ _ _ _ _ _ _ _ _ _ F.post (le4.trans le6) hw ⟨rfl, rfl⟩ hb hN6
theorem orderd_mat (hA : Rm 8 A) (O : Ok (hd.heap_1 w.params) R s) (hl : Led R [(dx, od), (sa, listOf vs.toArray n), (th, listOf nvs.toArray kn)] s) (hx : R x = some (instObj 80 dx)) (hw : WorkD od (.ref sa) (.ref ga) fv .none) (H : HK prog w R1 R hk lam th)
    (hN : NotesR R nvs ns) (hnl : ns.length ≤ 80000) (hst : StrsAre vs (b ++ [u, o])) (hz : b.length ≤ 800) (hS : SaidOk "match" [.s u, .s o]) (ho : R oa = some (tupOf #[.str "MATCH" t] k))
    (h : ∀ v s' R' od' sb fv' vs' n' nvs' kn', Post (hd.heap_1 w.params) s [dx, sa, th] R R' [(dx, od'), (sb, listOf vs'.toArray n'), (th, listOf nvs'.toArray kn')] s' → Le R R' → WorkD od' (.ref sb) (.ref ga) fv' .none → AnsV fv' (ans "match" [.s u, .s o]) ∧ v = .bool (!(fv' == .none)) → StrsAre vs' b → NotesR R' nvs' (ns ++ [(("match", [.s u, .s o]) : Note)]) → Q v s') :
    wpAny (model prog w) A (call (.ref 245) [.ref x, .ref oa, .ref hk]) Q E s := by
  refine' enter_ (n := 7) ["work", "order", "hooks"] ["word", "keys"] [("do_part", .ref 252), ("do_deed", .ref 259), ("do_other", .ref 266)] hA O hl ?ho ?hcd ?hc ?hg ?hlen ?hbind ?_
  case ho => k_is
  case hcd => k_is
  case hc => decide +kernel
  case hg => exact (List.forall_mem_cons.mpr ⟨gl_do_part w, (List.forall_mem_cons.mpr ⟨gl_do_deed w, (List.forall_mem_cons.mpr ⟨gl_do_other w, (fun _ h => nomatch h)⟩)⟩)⟩)
  case hlen => rfl
  case hbind => exact BindsTo.of_eq rfl
  intro env s' q1 q2 F G hA'
  simp only [l0, List.zip, List.zipWith, List.map, List.nil_append, List.cons_append] at F
  have hh := hA'.hd
  repeat k_all
  rename Fm _ _ _ _ _ _ _ _ _ => F; refine itemT_ (its := [_]) (F.tupR ho) (by decide) rfl (Nat.le_of_ble_eq_true rfl) ?_
  repeat k_all
  rename Fm _ _ _ _ _ _ _ _ _ => F; refine nt_ F ?_ (Nat.le_of_ble_eq_true rfl); clear F; intro z s_z F hn_z; (repeat k_all); rename Fm _ _ _ _ _ _ _ _ _ => F; (first | refine inTt_ F .head (by repeat constructor) (by decide) ?_ | refine inTf_ F .head (by repeat constructor) (by decide) ?_); have F9 := F.drop; clear F; rename Fm _ _ _ _ _ _ _ _ _ => F; (repeat k_all)
  rename Fm _ _ _ _ _ _ _ _ _ => F; refine nt_ F ?_ (Nat.le_of_ble_eq_true rfl); clear F; intro z s_z F hn_z; (repeat k_all); rename Fm _ _ _ _ _ _ _ _ _ => F; (first | refine inTt_ F .head (by repeat constructor) (by decide) ?_ | refine inTf_ F .head (by repeat constructor) (by decide) ?_); have F9 := F.drop; clear F; rename Fm _ _ _ _ _ _ _ _ _ => F; (repeat k_all)
  rename Fm _ _ _ _ _ _ _ _ _ => F; refine nt_ F ?_ (Nat.le_of_ble_eq_true rfl); clear F; intro z s_z F hn_z; (repeat k_all); rename Fm _ _ _ _ _ _ _ _ _ => F; (first | refine inTt_ F .head (by repeat constructor) (by decide) ?_ | refine inTf_ F .head (by repeat constructor) (by decide) ?_); have F9 := F.drop; clear F; rename Fm _ _ _ _ _ _ _ _ _ => F; (repeat k_all)
  rename Fm _ _ _ _ _ _ _ _ _ => F
  refine deed_mat hA' F.out.ok (F.front (l1 := [_, _, _])) hx hw H hN hnl hst hz hS ?_
  intro v s8 R8 od8 sb8 fv8 vs8 n8 nvs8 kn8 P8 le8 hw8 hv8 hst8 hN8
  have F8 := F.after3 P8
  clear F
  repeat k_all
  rename Fm _ _ _ _ _ _ _ _ _ => F
  exact h _ _ _ _ _ _ _ _ _ _ F.post le8 hw8 hv8 hst8 hN8
theorem orderd_asg (hA : Rm 8 A) (O : Ok (hd.heap_1 w.params) R s) (hl : Led R [(dx, od), (sa, listOf vs.toArray n), (th, listOf nvs.toArray kn)] s) (hx : R x = some (instObj 80 dx)) (hw : WorkD od (.ref sa) (.ref ga) fv .none) (H : HK prog w R1 R hk lam th)
    (hN : NotesR R nvs ns) (hnl : ns.length ≤ 80000) (hst : StrsAre vs (b ++ [u, o])) (hz : b.length ≤ 800) (hS : SaidOk "assign" [.s u, .s o]) (ho : R oa = some (tupOf #[.str "ASSIGN" t] k))
    (h : ∀ v s' R' od' sb fv' vs' n' nvs' kn', Post (hd.heap_1 w.params) s [dx, sa, th] R R' [(dx, od'), (sb, listOf vs'.toArray n'), (th, listOf nvs'.toArray kn')] s' → Le R R' → WorkD od' (.ref sb) (.ref ga) fv' .none → fv' = fv ∧ v = .bool true → StrsAre vs' b → NotesR R' nvs' (ns ++ [(("assign", [.s u, .s o]) : Note)]) → Q v s') :
    wpAny (model prog w) A (call (.ref 245) [.ref x, .ref oa, .ref hk]) Q E s := by
  refine' enter_ (n := 7) ["work", "order", "hooks"] ["word", "keys"] [("do_part", .ref 252), ("do_deed", .ref 259), ("do_other", .ref 266)] hA O hl ?ho ?hcd ?hc ?hg ?hlen ?hbind ?_
  case ho => k_is
  case hcd => k_is
  case hc => decide +kernel
  case hg => exact (List.forall_mem_cons.mpr ⟨gl_do_part w, (List.forall_mem_cons.mpr ⟨gl_do_deed w, (List.forall_mem_cons.mpr ⟨gl_do_other w, (fun _ h => nomatch h)⟩)⟩)⟩)
  case hlen => rfl
  case hbind => exact BindsTo.of_eq rfl
  intro env s' q1 q2 F G hA'
  simp only [l0, List.zip, List.zipWith, List.map, List.nil_append, List.cons_append] at F
  have hh := hA'.hd
  repeat k_all
  rename Fm _ _ _ _ _ _ _ _ _ => F; refine itemT_ (its := [_]) (F.tupR ho) (by decide) rfl (Nat.le_of_ble_eq_true rfl) ?_
  repeat k_all
  rename Fm _ _ _ _ _ _ _ _ _ => F; refine nt_ F ?_ (Nat.le_of_ble_eq_true rfl); clear F; intro z s_z F hn_z; (repeat k_all); rename Fm _ _ _ _ _ _ _ _ _ => F; (first | refine inTt_ F .head (by repeat constructor) (by decide) ?_ | refine inTf_ F .head (by repeat constructor) (by decide) ?_); have F9 := F.drop; clear F; rename Fm _ _ _ _ _ _ _ _ _ => F; (repeat k_all)
  rename Fm _ _ _ _ _ _ _ _ _ => F; refine nt_ F ?_ (Nat.le_of_ble_eq_true rfl); clear F; intro z s_z F hn_z; (repeat k_all); rename Fm _ _ _ _ _ _ _ _ _ => F; (first | refine inTt_ F .head (by repeat constructor) (by decide) ?_ | refine inTf_ F .head (by repeat constructor) (by decide) ?_); have F9 := F.drop; clear F; rename Fm _ _ _ _ _ _ _ _ _ => F; (repeat k_all)
  rename Fm _ _ _ _ _ _ _ _ _ => F; refine nt_ F ?_ (Nat.le_of_ble_eq_true rfl); clear F; intro z s_z F hn_z; (repeat k_all); rename Fm _ _ _ _ _ _ _ _ _ => F; (first | refine inTt_ F .head (by repeat constructor) (by decide) ?_ | refine inTf_ F .head (by repeat constructor) (by decide) ?_); have F9 := F.drop; clear F; rename Fm _ _ _ _ _ _ _ _ _ => F; (repeat k_all)
  rename Fm _ _ _ _ _ _ _ _ _ => F
  refine deed_asg hA' F.out.ok (F.front (l1 := [_, _, _])) hx hw H hN hnl hst hz hS ?_
  intro v s8 R8 od8 sb8 fv8 vs8 n8 nvs8 kn8 P8 le8 hw8 hv8 hst8 hN8
  have F8 := F.after3 P8
  clear F
  repeat k_all
  rename Fm _ _ _ _ _ _ _ _ _ => F
  exact h _ _ _ _ _ _ _ _ _ _ F.post le8 hw8 hv8 hst8 hN8
theorem orderd_rep {m : Int} {tm : Tok} (hA : Rm 8 A) (O : Ok (hd.heap_1 w.params) R s) (hl : Led R [(dx, od), (sa, listOf vs.toArray n), (th, listOf nvs.toArray kn)] s) (hx : R x = some (instObj 80 dx)) (hw : WorkD od (.ref sa) (.ref ga) (.int m tm) .none) (H : HK prog w R1 R hk lam th)
    (hN : NotesR R nvs ns) (hnl : ns.length ≤ 80000) (hst : StrsAre vs (b ++ [u, o])) (hz : b.length ≤ 800) (hS : SaidOk "replace" [.s u, .i m, .s o]) (ho : R oa = some (tupOf #[.str "REPLACE" t] k))
    (h : ∀ v s' R' od' sb fv' vs' n' nvs' kn', Post (hd.heap_1 w.params) s [dx, sa, th] R R' [(dx, od'), (sb, listOf vs'.toArray n'), (th, listOf nvs'.toArray kn')] s' → Le R R' → WorkD od' (.ref sb) (.ref ga) fv' .none → fv' = .int m tm ∧ v = .bool true → StrsAre vs' b → NotesR R' nvs' (ns ++ [(("replace", [.s u, .i m, .s o]) : Note)]) → Q v s') :
    wpAny (model prog w) A (call (.ref 245) [.ref x, .ref oa, .ref hk]) Q E s := by
  refine' enter_ (n := 7) ["work", "order", "hooks"] ["word", "keys"] [("do_part", .ref 252), ("do_deed", .ref 259), ("do_other", .ref 266)] hA O hl ?ho ?hcd ?hc ?hg ?hlen ?hbind ?_
  case ho => k_is
  case hcd => k_is
  case hc => decide +kernel
  case hg => exact (List.forall_mem_cons.mpr ⟨gl_do_part w, (List.forall_mem_cons.mpr ⟨gl_do_deed w, (List.forall_mem_cons.mpr ⟨gl_do_other w, (fun _ h => nomatch h)⟩)⟩)⟩)
  case hlen => rfl
  case hbind => exact BindsTo.of_eq rfl
  intro env s' q1 q2 F G hA'
  simp only [l0, List.zip, List.zipWith, List.map, List.nil_append, List.cons_append] at F
  have hh := hA'.hd
  repeat k_all
  rename Fm _ _ _ _ _ _ _ _ _ => F; refine itemT_ (its := [_]) (F.tupR ho) (by decide) rfl (Nat.le_of_ble_eq_true rfl) ?_
  repeat k_all
  rename Fm _ _ _ _ _ _ _ _ _ => F; refine nt_ F ?_ (Nat.le_of_ble_eq_true rfl); clear F; intro z s_z F hn_z; (repeat k_all); rename Fm _ _ _ _ _ _ _ _ _ => F; (first | refine inTt_ F .head (by repeat constructor) (by decide) ?_ | refine inTf_ F .head (by repeat constructor) (by decide) ?_); have F9 := F.drop; clear F; rename Fm _ _ _ _ _ _ _ _ _ => F; (repeat k_all)
  rename Fm _ _ _ _ _ _ _ _ _ => F; refine nt_ F ?_ (Nat.le_of_ble_eq_true rfl); clear F; intro z s_z F hn_z; (repeat k_all); rename Fm _ _ _ _ _ _ _ _ _ => F; (first | refine inTt_ F .head (by repeat constructor) (by decide) ?_ | refine inTf_ F .head (by repeat constructor) (by decide) ?_); have F9 := F.drop; clear F; rename Fm _ _ _ _ _ _ _ _ _ => F; (repeat k_all)
  rename Fm _ _ _ _ _ _ _ _ _ => F; refine nt_ F ?_ (Nat.le_of_ble_eq_true rfl); clear F; intro z s_z F hn_z; (repeat k_all); rename Fm _ _ _ _ _ _ _ _ _ => F; (first | refine inTt_ F .head (by repeat constructor) (by decide) ?_ | refine inTf_ F .head (by repeat constructor) (by decide) ?_); have F9 := F.drop; clear F; rename Fm _ _ _ _ _ _ _ _ _ => F; (repeat k_all)
  rename Fm _ _ _ _ _ _ _ _ _ => F
  refine deed_rep hA' F.out.ok (F.front (l1 := [_, _, _])) hx hw H hN hnl hst hz hS ?_
  intro v s8 R8 od8 sb8 fv8 vs8 n8 nvs8 kn8 P8 le8 hw8 hv8 hst8 hN8
  have F8 := F.after3 P8
  clear F
  repeat k_all
  rename Fm _ _ _ _ _ _ _ _ _ => F
  exact h _ _ _ _ _ _ _ _ _ _ F.post le8 hw8 hv8 hst8 hN8
end

-- LR1
/-- the loop's state -/
noncomputable def LoopS (w : World) (env : Env) (se : Shared) (th : Addr) (R₀ R : Imm) (fl hk x ga : Addr) (at_ : Nat) (st : List Str) (gs : List (Nat × Nat)) (f : Option Int) (ns : List Note) (s : Shared) : Prop :=
  ∃ dx od sa fv vs n nvs kn gvs gn t ov hv, Fm (hd.heap_1 w.params) env se [th] R₀ R [("orders", some (.ref fl)), ("hooks", some (.ref hk)), ("work", some (.ref x)), ("at", some (.int at_ t)), ("order", ov), ("height", hv)]
      [(dx, od), (sa, listOf vs.toArray n), (th, listOf nvs.toArray kn), (ga, listOf gvs.toArray gn)] s ∧
    R x = some (instObj 80 dx) ∧ WorkD od (.ref sa) (.ref ga) fv .none ∧ FoV f fv ∧ StrsAre vs st ∧ GsR R gvs gs ∧ NotesR R nvs ns
/-- what an order does -/
noncomputable def Does (prog : Program) (w : World) (R : Imm) (hk x th ga : Addr) (o : FO) (st : List Str) (gs : List (Nat × Nat)) (f : Option Int) (ns : List Note) (b : Bool) (st' : List Str) (gs' : List (Nat × Nat)) (f' : Option Int) (ns' : List Note) : Prop :=
  ∀ (A : Around) (E : Value → Shared → Prop) (Q : Value → Shared → Prop) (s : Shared) (oa dx sa : Addr) (od : Obj) (fv : Value) (vs nvs gvs : List Value) (n kn gn : Nat), Rm 8 A → Ok (hd.heap_1 w.params) R s →
    Led R [(dx, od), (sa, listOf vs.toArray n), (th, listOf nvs.toArray kn), (ga, listOf gvs.toArray gn)] s → R x = some (instObj 80 dx) → WorkD od (.ref sa) (.ref ga) fv .none → FoV f fv → StrsAre vs st → GsR R gvs gs → NotesR R nvs ns → FOR R (.ref oa) o →
    (∀ s' R' od' sb fv' vs' n' nvs' kn' gvs' gn', Post (hd.heap_1 w.params) s [dx, sa, th, ga] R R' [(dx, od'), (sb, listOf vs'.toArray n'), (th, listOf nvs'.toArray kn'), (ga, listOf gvs'.toArray gn')] s' → Le R R' → WorkD od' (.ref sb) (.ref ga) fv' .none → FoV f' fv' →
      StrsAre vs' st' → GsR R' gvs' gs' → NotesR R' nvs' ns' → Q (.bool b) s') → wpAny (model prog w) A (call (.ref 245) [.ref x, .ref oa, .ref hk]) Q E s
section
variable {prog : Program} {w : World} {s se : Shared} {R R0 R1 : Imm} {A : Around} {E : Value → Shared → Prop} {hk lam th x dx sa ga oa fl : Addr} {nvs vs ovs gvs fvs : List Value} {n k kn gn : Nat} {ns : List Note} {st : List Str} {od : Obj} {fo go : Value} {Q : Value → Shared → Prop} {env : Env} {gs : List (Nat × Nat)} {f : Option Int}


theorem does_sim {o : Sim} (H : HK prog w R1 R hk lam th) (hf : Fits o st ns) : Does prog w R hk x th ga (.sim o) st gs f ns (step o st ns).1.isSome ((step o st ns).1.getD (base o st)) gs f (step o st ns).2 := by
  intro A E Q s oa dx sa od fv vs nvs gvs n kn gn hA O hl hx hw hf' hst hgs hN ho h
  cases ho with
  | sim h1 h2 =>
    refine order_sim o hA O (Led.front (l1 := [_, _, _]) hl) hx hw H hN hst h1 h2 hf ?_
    intro s' R' od' sb vs' n' nvs' kn' P le hw' hst' hN'
    exact h _ _ _ _ _ _ _ _ _ _ _ (Post.widen (l1 := [_, _, _]) (l2 := [_]) hl P) le hw' hf' hst' (hgs.mono le) hN'
theorem does_ok {o : Sim} {st' : List Str} {ns1 : List Note} (H : HK prog w R1 R hk lam th) (hf : Fits o st ns) (hs : step o st ns = (some st', ns1)) : Does prog w R hk x th ga (.sim o) st gs f ns true st' gs f ns1 := by
  have D := does_sim (x := x) (ga := ga) (gs := gs) (f := f) H hf
  rw [hs] at D
  exact D
theorem does_bad {o : Sim} {ns1 : List Note} (H : HK prog w R1 R hk lam th) (hf : Fits o st ns) (hs : step o st ns = (none, ns1)) : Does prog w R hk x th ga (.sim o) st gs f ns false (base o st) gs f ns1 := by
  have D := does_sim (x := x) (ga := ga) (gs := gs) (f := f) H hf
  rw [hs] at D
  exact D
theorem does_unguard {g : Nat × Nat} (hg : gs.length ≤ 900) : Does prog w R hk x th ga .unguard st (gs ++ [g]) f ns true st gs f ns := by
  intro A E Q s oa dx sa od fv vs nvs gvs n kn gn hA O hl hx hw hf' hst hgs hN ho h
  cases ho with
  | unguard h1 =>
    obtain ⟨us, v, rfl, hus, hv⟩ := hgs.unsnoc
    have hl2 : Led R ([(dx, od), (ga, listOf (us ++ [v]).toArray gn)] ++ [(sa, listOf vs.toArray n), (th, listOf nvs.toArray kn)]) s := hl.perm (((List.perm_middle (l₁ := [(sa, listOf vs.toArray n), (th, listOf nvs.toArray kn)]) (l₂ := []) (a := (ga, listOf (us ++ [v]).toArray gn))).symm).cons _)
    refine order_unguard hA O hl2.front hx hw (by rw [hus.length]; omega) h1 ?_
    intro s' gn' P
    have P2 := Post.widen (l1 := [_, _]) hl2 P
    exact h _ _ _ _ _ _ _ _ _ _ _ (P2.perm (by simp) (((List.perm_middle (l₁ := [(sa, listOf vs.toArray n), (th, listOf nvs.toArray kn)]) (l₂ := []) (a := (ga, listOf us.toArray gn')))).cons _)) .refl hw hf' hst hus hN
theorem does_fail : Does prog w R hk x th ga .fail st gs f ns false st gs f ns := by
  intro A E Q s oa dx sa od fv vs nvs gvs n kn gn hA O hl hx hw hf' hst hgs hN ho h
  cases ho with
  | fail h1 =>
    refine order_fail hA O h1 ?_
    intro s' P
    exact h _ _ _ _ _ _ _ _ _ _ _ (Post.widen (l1 := []) hl P) .refl hw hf' hst hgs hN

theorem does_mat {b : List Str} {u o : Str} {m : Int} (H : HK prog w R1 R hk lam th) (h1 : b.length ≤ 800) (h2 : ns.length ≤ 80000) (h3 : SaidOk "match" [.s u, .s o]) (h4 : ans "match" [.s u, .s o] = .i m) :
    Does prog w R hk x th ga .mat (b ++ [u, o]) [] f ns true b [] (some m) (ns ++ [(("match", [.s u, .s o]) : Note)]) := by
  intro A E Q s oa dx sa od fv vs nvs gvs n kn gn hA O hl hx hw hf' hst hgs hN ho h
  cases ho with
  | mat ho1 =>
    refine orderd_mat hA O (Led.front (l1 := [_, _, _]) hl) hx hw H hN h2 hst h1 h3 ho1 ?_
    intro v s' R' od' sb fv' vs' n' nvs' kn' P le hw' hv hst' hN'
    have P2 := Post.widen (l1 := [_, _, _]) (l2 := [_]) hl P
    obtain ⟨hv1, rfl⟩ := hv
    rw [h4] at hv1
    obtain ⟨tq, rfl⟩ := hv1
    exact h _ _ _ _ _ _ _ _ _ _ _ P2 le hw' ⟨tq, rfl⟩ hst' (hgs.mono le) hN'

theorem does_mat0 {b : List Str} {u o : Str} (H : HK prog w R1 R hk lam th) (h1 : b.length ≤ 800) (h2 : ns.length ≤ 80000) (h3 : SaidOk "match" [.s u, .s o]) (h4 : ans "match" [.s u, .s o] = .none) :
    Does prog w R hk x th ga .mat (b ++ [u, o]) [] f ns false b [] none (ns ++ [(("match", [.s u, .s o]) : Note)]) := by
  intro A E Q s oa dx sa od fv vs nvs gvs n kn gn hA O hl hx hw hf' hst hgs hN ho h
  cases ho with
  | mat ho1 =>
    refine orderd_mat hA O (Led.front (l1 := [_, _, _]) hl) hx hw H hN h2 hst h1 h3 ho1 ?_
    intro v s' R' od' sb fv' vs' n' nvs' kn' P le hw' hv hst' hN'
    have P2 := Post.widen (l1 := [_, _, _]) (l2 := [_]) hl P
    obtain ⟨hv1, rfl⟩ := hv
    rw [h4] at hv1
    have hv2 : fv' = .none := hv1
    subst hv2
    exact h _ _ _ _ _ _ _ _ _ _ _ P2 le hw' rfl hst' (hgs.mono le) hN'

theorem does_asg {b : List Str} {u o : Str} (H : HK prog w R1 R hk lam th) (h1 : b.length ≤ 800) (h2 : ns.length ≤ 80000) (h3 : SaidOk "assign" [.s u, .s o]) :
    Does prog w R hk x th ga .asg (b ++ [u, o]) [] f ns true b [] f (ns ++ [(("assign", [.s u, .s o]) : Note)]) := by
  intro A E Q s oa dx sa od fv vs nvs gvs n kn gn hA O hl hx hw hf' hst hgs hN ho h
  cases ho with
  | asg ho1 =>
    refine orderd_asg hA O (Led.front (l1 := [_, _, _]) hl) hx hw H hN h2 hst h1 h3 ho1 ?_
    intro v s' R' od' sb fv' vs' n' nvs' kn' P le hw' hv hst' hN'
    have P2 := Post.widen (l1 := [_, _, _]) (l2 := [_]) hl P
    obtain ⟨hv1, rfl⟩ := hv
    subst hv1
    exact h _ _ _ _ _ _ _ _ _ _ _ P2 le hw' hf' hst' (hgs.mono le) hN'

theorem does_rep {b : List Str} {u o : Str} {m : Int} (H : HK prog w R1 R hk lam th) (h1 : b.length ≤ 800) (h2 : ns.length ≤ 80000) (h3 : SaidOk "replace" [.s u, .i m, .s o]) :
    Does prog w R hk x th ga .rep (b ++ [u, o]) [] (some m) ns true b [] (some m) (ns ++ [(("replace", [.s u, .i m, .s o]) : Note)]) := by
  intro A E Q s oa dx sa od fv vs nvs gvs n kn gn hA O hl hx hw hf' hst hgs hN ho h
  cases ho with
  | rep ho1 =>
    obtain ⟨tm, rfl⟩ := hf'
    refine orderd_rep hA O (Led.front (l1 := [_, _, _]) hl) hx hw H hN h2 hst h1 h3 ho1 ?_
    intro v s' R' od' sb fv' vs' n' nvs' kn' P le hw' hv hst' hN'
    have P2 := Post.widen (l1 := [_, _, _]) (l2 := [_]) hl P
    obtain ⟨hv1, rfl⟩ := hv
    subst hv1
    exact h _ _ _ _ _ _ _ _ _ _ _ P2 le hw' ⟨tm, rfl⟩ hst' (hgs.mono le) hN'


noncomputable def TurnDo (R1 : Imm) (prog : Program) (w : World) (A : Around) (env : Env) (se : Shared) (th : Addr) (R0 : Imm) (fl hk x ga : Addr) (fs : List FO) (test : Expr) (body : List Stmt) (Rr : Result → Shared → Prop) : Prop :=
  ∀ {R s at_ st gs f ns o b st' gs' f' ns1}, LoopS w env se th R0 R fl hk x ga at_ st gs f ns s → fs[at_]? = some o → (∀ n, o ≠ .guard n) → Does prog w R hk x th ga o st gs f ns b st' gs' f' ns1 → Le R1 R → gs'.length ≤ 1000 → st'.length ≤ 1000 →
    (b = true → ∀ R' s', Le R R' → LoopS w env se th R0 R' fl hk x ga (at_ + 1) st' gs' f' ns1 s' → codeAny (model prog w) A (.whileLoop test body [] env) Rr s') →
    (b = false → ∀ gs2 p h, gs' = gs2 ++ [(p, h)] → ∀ R' s', Le R R' → LoopS w env se th R0 R' fl hk x ga p (st'.take h) gs2 f' ns1 s' → codeAny (model prog w) A (.whileLoop test body [] env) Rr s') →
    (b = false → gs' = [] → ∀ R' s' nvs kn l', Le R R' → Fm (hd.heap_1 w.params) env se [th] R0 R' l' [(th, listOf nvs.toArray kn)] s' → NotesR R' nvs ns1 → Rr (.ok (.ret .none)) s') →
    codeAny (model prog w) A (.whileLoop test body [] env) Rr s
noncomputable def TurnGuard (R1 : Imm) (prog : Program) (w : World) (A : Around) (env : Env) (se : Shared) (th : Addr) (R0 : Imm) (fl hk x ga : Addr) (fs : List FO) (test : Expr) (body : List Stmt) (Rr : Result → Shared → Prop) : Prop :=
  ∀ {R s at_ st gs f ns n}, LoopS w env se th R0 R fl hk x ga at_ st gs f ns s → fs[at_]? = some (.guard n) → Le R1 R → gs.length ≤ 1000 → st.length ≤ 1000 →
    (∀ R' s', Le R R' → LoopS w env se th R0 R' fl hk x ga (at_ + 1) st (gs ++ [(at_ + n, st.length)]) f ns s' → codeAny (model prog w) A (.whileLoop test body [] env) Rr s') →
    codeAny (model prog w) A (.whileLoop test body [] env) Rr s
noncomputable def TurnDone (R1 : Imm) (prog : Program) (w : World) (A : Around) (env : Env) (se : Shared) (th : Addr) (R0 : Imm) (fl hk x ga : Addr) (fs : List FO) (test : Expr) (body : List Stmt) (Rr : Result → Shared → Prop) : Prop :=
  ∀ {R s at_ st gs f ns}, LoopS w env se th R0 R fl hk x ga at_ st gs f ns s → fs.length = at_ → Le R1 R →
    (∀ s', LoopS w env se th R0 R fl hk x ga at_ st gs f ns s' → Rr (.ok .next) s') → codeAny (model prog w) A (.whileLoop test body [] env) Rr s
theorem fits_next {o : Sim} {st' : List Str} {ns1 : List Note} (hf : Fits o st ns) (e : step o st ns = (some st', ns1)) : st'.length ≤ 1000 := by
  have h1 := hf.len
  have hb : (base o st).length ≤ st.length := by unfold base; rw [List.length_take]; omega
  cases o with
  | push y => simp [step] at e; rw [← e.1]; simp; omega
  | double => simp [step] at e; rw [← e.1]; simp; omega
  | _ =>
    simp only [step, Prod.mk.injEq, Option.map_eq_some_iff] at e
    obtain ⟨⟨y, _, rfl⟩, _⟩ := e
    rw [List.length_append]; simp; omega
theorem loop_gen {fs : List FO} {at_ : Nat} {r : Option (List Str × List (Nat × Nat))} {ns' : List Note} {R0 : Imm} {test : Expr} {body : List Stmt} {Rr : Result → Shared → Prop} {RH : Imm} (hr : Runs fs at_ st gs f ns r ns')
    (H : HK prog w RH R1 hk lam th) (hdo : TurnDo R1 prog w A env se th R0 fl hk x ga fs test body Rr) (hgu : TurnGuard R1 prog w A env se th R0 fl hk x ga fs test body Rr) (hdn : TurnDone R1 prog w A env se th R0 fl hk x ga fs test body Rr)
    (hsome : ∀ st' gs', r = some (st', gs') → ∀ s' R' at' f', Le R1 R' → LoopS w env se th R0 R' fl hk x ga at' st' gs' f' ns' s' → Rr (.ok .next) s')
    (hnone : r = none → ∀ s' R' nvs' kn' l', Le R1 R' → Fm (hd.heap_1 w.params) env se [th] R0 R' l' [(th, listOf nvs'.toArray kn')] s' → NotesR R' nvs' ns' → Rr (.ok (.ret .none)) s') :
    ∀ {R s}, Le R1 R → LoopS w env se th R0 R fl hk x ga at_ st gs f ns s → codeAny (model prog w) A (.whileLoop test body [] env) Rr s := by
  induction hr with
  | done e =>
    intro R s le hS
    exact hdn hS e le fun s' hS' => hsome _ _ rfl s' R _ _ le hS'
  | guard e h1 h2 _ ih =>
    intro R s le hS
    exact hgu hS e le (by omega) (by omega) fun R' s' le' hS' => ih hsome hnone (le.trans le') hS'
  | ok e hf h2 hs _ ih =>
    intro R s le hS
    exact hdo hS e (by intro n q; cases q) (does_ok (H.mono le) hf hs) le (by omega) (fits_next hf hs) (fun _ R' s' le' hS' => ih hsome hnone (le.trans le') hS') (fun q => by cases q) (fun q => by cases q)
  | unguard e h1 h2 _ ih =>
    intro R s le hS
    exact hdo hS e (by intro n q; cases q) (does_unguard h2) le (by omega) (by omega) (fun _ R' s' le' hS' => ih hsome hnone (le.trans le') hS') (fun q => by cases q) (fun q => by cases q)
  | bad0 e hf hs =>
    intro R s le hS
    exact hdo hS e (by intro n q; cases q) (does_bad (H.mono le) hf hs) le (by simp) (by have := hf.len; show (base _ _).length ≤ 1000; unfold base; rw [List.length_take]; omega) (fun q => by cases q) (fun _ gs2 p h q => by simp at q) (fun _ _ R' s' nvs kn l' le' F hN => hnone rfl _ _ _ _ _ (le.trans le') F hN)
  | badG e hf hs h2 _ ih =>
    intro R s le hS
    refine hdo hS e (by intro n q; cases q) (does_bad (H.mono le) hf hs) le (by rw [List.length_append]; simp; omega) (by have := hf.len; show (base _ _).length ≤ 1000; unfold base; rw [List.length_take]; omega) (fun q => by cases q) (fun _ gs2 p h q => ?_) (fun _ q => by simp at q)
    obtain ⟨rfl, q2⟩ := List.append_inj' q rfl
    simp only [List.cons.injEq, Prod.mk.injEq, and_true] at q2
    obtain ⟨rfl, rfl⟩ := q2
    exact fun R' s' le' hS' => ih hsome hnone (le.trans le') hS'
  | failG e h1 h2 _ ih =>
    intro R s le hS
    refine hdo hS e (by intro n q; cases q) does_fail le (by rw [List.length_append]; simp; omega) (by omega) (fun q => by cases q) (fun _ gs2 p h q => ?_) (fun _ q => by simp at q)
    obtain ⟨rfl, q2⟩ := List.append_inj' q rfl
    simp only [List.cons.injEq, Prod.mk.injEq, and_true] at q2
    obtain ⟨rfl, rfl⟩ := q2
    exact fun R' s' le' hS' => ih hsome hnone (le.trans le') hS'
  | fail0 e h1 =>
    intro R s le hS
    exact hdo hS e (by intro n q; cases q) does_fail le (by simp) (by omega) (fun q => by cases q) (fun _ gs2 p h q => by simp at q) (fun _ _ R' s' nvs kn l' le' F hN => hnone rfl _ _ _ _ _ (le.trans le') F hN)
  | mat e h1 h2 h3 h4 _ ih =>
    intro R s le hS
    exact hdo hS e (by intro n q; cases q) (does_mat (H.mono le) h1 h2 h3 h4) le (by simp) (by omega) (fun _ R' s' le' hS' => ih hsome hnone (le.trans le') hS') (fun q => by cases q) (fun q => by cases q)
  | mat0 e h1 h2 h3 h4 =>
    intro R s le hS
    exact hdo hS e (by intro n q; cases q) (does_mat0 (H.mono le) h1 h2 h3 h4) le (by simp) (by omega) (fun q => by cases q) (fun _ gs2 p h q => by simp at q) (fun _ _ R' s' nvs kn l' le' F hN => hnone rfl _ _ _ _ _ (le.trans le') F hN)
  | asg e h1 h2 h3 _ ih =>
    intro R s le hS
    exact hdo hS e (by intro n q; cases q) (does_asg (H.mono le) h1 h2 h3) le (by simp) (by omega) (fun _ R' s' le' hS' => ih hsome hnone (le.trans le') hS') (fun q => by cases q) (fun q => by cases q)
  | rep e h1 h2 h3 _ ih =>
    intro R s le hS
    exact hdo hS e (by intro n q; cases q) (does_rep (H.mono le) h1 h2 h3) le (by simp) (by omega) (fun _ R' s' le' hS' => ih hsome hnone (le.trans le') hS') (fun q => by cases q) (fun q => by cases q)

end

-- LR
section
variable {prog : Program} {w : World} {s se : Shared} {R R0 R1 : Imm} {A : Around} {E : Value → Shared → Prop} {hk lam th x dx sa ga oa fl : Addr} {nvs vs ovs gvs fvs : List Value} {n k kn gn : Nat} {ns : List Note} {st : List Str} {od : Obj} {fo go : Value} {Q : Value → Shared → Prop} {env : Env} {gs : List (Nat × Nat)} {f : Option Int}
set_option maxHeartbeats 1000000 in
theorem runrow_ {fs : List FO} {r : Option (List Str × List (Nat × Nat))} {ns' : List Note} (hr : Runs fs 0 [] [] none ns r ns') (hA : Rm 12 A) (O : Ok (hd.heap_1 w.params) R s) (hl : Led R [(th, listOf nvs.toArray kn)] s) (H : HK prog w R1 R hk lam th) (hN : NotesR R nvs ns)
    (hfl : R fl = some (listOf fvs.toArray k)) (hF : FOsR R fvs fs) (hlen : fs.length ≤ 50000)
    (hsome : ∀ st' gs', r = some (st', gs') → ∀ s' R' x dx od sa ga fv vs gvs n gn nvs' kn', Post (hd.heap_1 w.params) s [th] R R' [(dx, od), (sa, listOf vs.toArray n), (th, listOf nvs'.toArray kn'), (ga, listOf gvs.toArray gn)] s' → Le R R' → R' x = some (instObj 80 dx) →
      WorkD od (.ref sa) (.ref ga) fv .none → StrsAre vs st' → GsR R' gvs gs' → NotesR R' nvs' ns' → Q (.ref x) s')
    (hnone : r = none → ∀ s' R' nvs' kn', Post (hd.heap_1 w.params) s [th] R R' [(th, listOf nvs'.toArray kn')] s' → Le R R' → NotesR R' nvs' ns' → Q .none s') :
    wpAny (model prog w) A (call (.ref 238) [.ref fl, .ref hk]) Q E s := by
  refine' enter_ (n := 11) ["orders", "hooks"] ["work", "at", "order", "height"] [("Work", .ref 80), ("len", .builtin "len"), ("do_order", .ref 245)] hA O hl ?ho ?hcd ?hc ?hg ?hlen ?hbind ?_
  case ho => k_is
  case hcd => k_is
  case hc => decide +kernel
  case hg => exact (List.forall_mem_cons.mpr ⟨gl_Work w, (List.forall_mem_cons.mpr ⟨gl_len w, (List.forall_mem_cons.mpr ⟨gl_do_order w, (fun _ h => nomatch h)⟩)⟩)⟩)
  case hlen => rfl
  case hbind => exact BindsTo.of_eq rfl
  intro env s' q1 q2 F G hA'
  simp only [l0, List.zip, List.zipWith, List.map, List.nil_append, List.cons_append] at F
  have hh := hA'.hd
  refine seq_ ?_; k_fold
  refine Assign_Tuple_swapped (names := ["work", "at"]) ?_ (by with_unfolding_all rfl) ?hw
  case hw =>
    rename Fm _ _ _ _ _ _ _ _ _ => F
    have k1 : env.kindOf "work" = some .local := (F.kinds ("work", none) (.tail _ (.tail _ (.head _)))).1
    have k2 : env.kindOf "at" = some .local := (F.kinds ("at", none) (.tail _ (.tail _ (.tail _ (.head _))))).1
    have kb : env.blockKind = .function := by unfold Env.blockKind; rw [F.kind]; rfl
    unfold swappedStores
    simp only [kb, k1, k2, List.filterMap]
    with_unfolding_all rfl
  repeat k_all
  refine make_ (by assumption) (by k_is) (by k_is) (by k_is) ?_
  rename Fm _ _ _ _ _ _ _ _ _ => F
  intro x dx s2 hRx hRdx hnx hndx F2
  clear F
  rename Fm _ _ _ _ _ _ _ _ _ => F
  refine initW_ (hA'.tc.le (by decide)) F.out.ok (F.front (l1 := [_])) Imm.put_self ?_
  intro s3 od sa ga hw P3
  have F3 := F.after1 P3
  clear F
  refine ⟨rfl, ?_⟩
  repeat k_all
  rename Tok => t1
  rename Fm _ _ _ _ _ _ _ _ _ => F; refine ntR_ F ?_ (Nat.le_of_ble_eq_true rfl); clear F; intro tp s_tp hR_tp F hn_tp
  repeat k_all
  rename Fm _ _ _ _ _ _ _ _ _ => F
  refine unpI_ F hh (F.tupR Imm.put_self) rfl ?_
  clear F; intro s5 F
  show wpAny _ _ (assignInOrder [bindName env "at", bindName env "work"] [_, _]) _ _ _
  refine assignInOrder_cons ?_
  refine bindName_ ?_
  repeat k_all
  refine assignInOrder_cons ?_
  refine bindName_ ?_
  repeat k_all
  refine assignInOrder_nil ?_
  repeat k_all
  refine While_ hh ?_
  rename Fm _ _ _ _ _ _ _ _ _ => F
  obtain ⟨R2, hR2, le1, hx2⟩ : ∃ R2, R2 = (R.put x (instObj 80 dx)).put tp (tupOf #[Value.ref x, Value.int 0 t1] 0) ∧ Le R R2 ∧ R2 x = some (instObj 80 dx) := ⟨_, rfl, (Le.put hRx).trans (Le.put hR_tp), Le.put hR_tp _ _ Imm.put_self⟩
  rw [← hR2] at F
  have F9 := F.perm (led' := [(dx, od), (sa, listOf #[] 0), (th, listOf nvs.toArray kn), (ga, listOf #[] 0)]) (((List.Perm.swap _ _ []).cons _).cons _)
  clear F
  refine loop_gen (R1 := R2) (fl := fl) (x := x) (ga := ga) (R0 := R) (th := th) (hk := hk) hr (H.mono le1) ?tdo ?tgu ?tdn ?hs ?hn .refl ⟨dx, od, sa, _, [], 0, nvs, kn, [], 0, t1, none, none, F9, hx2, hw, rfl, .nil, .nil, hN.mono le1⟩
  case hs =>
    intro st' gs' er s' R' at' f' le2 hS
    obtain ⟨dx', od', sb, fv, vs, n, nvs', kn', gvs, gn, t, ov, hv, F, a1, a2, a3, a4, a5, a6⟩ := hS
    repeat k_all
    rename Fm _ _ _ _ _ _ _ _ _ => F
    exact hsome _ _ er _ _ _ _ _ _ _ _ _ _ _ _ _ _ F.post (le1.trans le2) a1 a2 a4 a5 a6
  case hn =>
    intro er s' R' nvs' kn' l' le2 F a6
    repeat k_all
    rename Fm _ _ _ _ _ _ _ _ _ => F
    exact hnone er _ _ _ _ F.post (le1.trans le2) a6
  case tdn =>
    intro R s at_ st gs f ns hS e le k
    obtain ⟨dx', od', sb, fv, vs, n, nvs', kn', gvs, gn, t, ov, hv, F, a1, a2, a3, a4, a5, a6⟩ := hS
    refine while_one ?_
    repeat k_all
    rename Fm _ _ _ _ _ _ _ _ _ => F; refine lenL_ F (F.listR (le _ _ (le1 _ _ hfl))) (by rw [List.size_toArray, hF.length]; omega) ?_; clear F; intro t1 s1 F
    repeat k_all
    rw [List.size_toArray, hF.length]
    refine if_d (fun q => absurd q (by omega)) fun _ => ?_
    rename Fm _ _ _ _ _ _ _ _ _ => F
    exact k _ ⟨_, _, _, _, _, _, _, _, _, _, _, _, _, F, a1, a2, a3, a4, a5, a6⟩
  case tgu =>
    intro R s at_ st gs f ns m hS e le hgl hsl k
    obtain ⟨dx', od', sb, fv, vs, n, nvs', kn', gvs, gn, t, ov, hv, F, a1, a2, a3, a4, a5, a6⟩ := hS
    obtain ⟨v, hv1, hfo⟩ := (hF.mono (le1.trans le)).get e
    have hat : at_ < fs.length := (List.getElem?_eq_some_iff.mp e).1
    cases hfo with
    | guard h1 =>
    refine while_one ?_
    repeat k_all
    rename Fm _ _ _ _ _ _ _ _ _ => F; refine lenL_ F (F.listR (le _ _ (le1 _ _ hfl))) (by rw [List.size_toArray, hF.length]; omega) ?_; clear F; intro t1 s1 F
    repeat k_all
    rw [List.size_toArray, hF.length]
    refine if_d (fun _ => ?_) fun q => absurd q (by omega)
    repeat k_all
    rename Fm _ _ _ _ _ _ _ _ _ => F; refine itemL_ (F.listR (le _ _ (le1 _ _ hfl))) (by omega) (by omega) (by simpa using hv1) ?_
    repeat k_all
    rename Fm _ _ _ _ _ _ _ _ _ => F; refine itemT_ (its := [_, _]) (F.tupR h1) (by decide) rfl (Nat.le_of_ble_eq_true rfl) ?_
    repeat k_all
    rename Fm _ _ _ _ _ _ _ _ _ => F; refine ex_ F ?_ (by with_unfolding_all rfl)
    repeat k_all
    rename Fm _ _ _ _ _ _ _ _ _ => F; refine wattr_ F a1 a2 .head (wG_guards w) (by intros; rfl) rfl ?_; clear F; intro s3 F
    repeat k_all
    rename Fm _ _ _ _ _ _ _ _ _ => F; refine itemT_ (its := [_, _]) (F.tupR h1) (by decide) rfl (Nat.le_of_ble_eq_true rfl) ?_
    repeat k_all
    rename Fm _ _ _ _ _ _ _ _ _ => F; refine wattr_ F a1 a2 .head (wG_stack w) (by intros; rfl) rfl ?_; clear F; intro s4 F
    repeat k_all
    rename Fm _ _ _ _ _ _ _ _ _ => F; refine lenL_ F (F.listAt (.tail _ (.head _))) (by rw [List.size_toArray, StrsAre.length' a4]; omega) ?_; clear F; intro t5 s5 F
    repeat k_all
    rw [List.size_toArray, StrsAre.length' a4]
    rename Fm _ _ _ _ _ _ _ _ _ => F; refine ntR_ F ?_ (Nat.le_of_ble_eq_true rfl); clear F; intro g s_g hR_g F hn_g
    repeat k_all
    rename Fm _ _ _ _ _ _ _ _ _ => F; refine appL_ F (.tail (.tail (.tail .head))) (by rw [a5.length]; omega) ?_; clear F; intro s6 F
    repeat k_all
    rename Fm _ _ _ _ _ _ _ _ _ => F
    exact k _ _ (Le.put hR_g) ⟨_, _, _, _, _, _, _, _, _, _, _, _, _, F, Le.put hR_g _ _ a1, a2, a3, a4, (a5.mono (Le.put hR_g)).snoc (.mk Imm.put_self), a6.mono (Le.put hR_g)⟩
  case tdo =>
    intro R s at_ st gs f ns o b st' gs' f' ns1 hS e hng hD le hgl hsl h1 h2 h3
    obtain ⟨dx', od', sb, fv, vs, n, nvs', kn', gvs, gn, t, ov, hv, F, a1, a2, a3, a4, a5, a6⟩ := hS
    obtain ⟨v, hv1, hfo⟩ := (hF.mono (le1.trans le)).get e
    have hat : at_ < fs.length := (List.getElem?_eq_some_iff.mp e).1
    have hfo' := hfo
    obtain ⟨oa, ovs, ko, word, tw, rfl, hoa, hwd, hol⟩ := hfo.head hng
    refine while_one ?_
    repeat k_all
    rename Fm _ _ _ _ _ _ _ _ _ => F; refine lenL_ F (F.listR (le _ _ (le1 _ _ hfl))) (by rw [List.size_toArray, hF.length]; omega) ?_; clear F; intro t1 s1 F
    repeat k_all
    rw [List.size_toArray, hF.length]
    refine if_d (fun _ => ?_) fun q => absurd q (by omega)
    repeat k_all
    rename Fm _ _ _ _ _ _ _ _ _ => F; refine itemL_ (F.listR (le _ _ (le1 _ _ hfl))) (by omega) (by omega) (by simpa using hv1) ?_
    repeat k_all
    rename Fm _ _ _ _ _ _ _ _ _ => F; refine itemT_ (F.tupR hoa) (by decide) rfl hol ?_
    repeat k_all
    refine if_e (α := Str) (fun q => absurd q hwd) fun _ => ?_
    repeat k_all
    rename Fm _ _ _ _ _ _ _ _ _ => F
    refine hD _ _ _ _ _ _ _ _ _ _ _ _ _ _ _ (hA'.le (by decide)) F.out.ok (F.front (l1 := [_, _, _, _]) (l2 := [])) a1 a2 a3 a4 a5 a6 hfo' ?_
    intro s3 R3 od3 sb3 fv3 vs3 n3 nvs3 kn3 gvs3 gn3 P3 le3 b2 b3 b4 b5 b6
    have F3 := F.after4 P3
    simp only [List.append_nil, List.cons_append, List.nil_append] at F3
    clear F
    have b1 := le3 _ _ a1
    repeat k_all
    refine if_c (fun hb => ?_) fun hb => ?_
    · repeat k_all
      rename Fm _ _ _ _ _ _ _ _ _ => F
      exact h1 hb _ _ le3 ⟨_, _, _, _, _, _, _, _, _, _, _, _, _, F, b1, b2, b3, b4, b5, b6⟩
    · repeat k_all
      rename Fm _ _ _ _ _ _ _ _ _ => F; refine wattr_ F b1 b2 .head (wG_guards w) (by intros; rfl) rfl ?_; clear F; intro s4 F
      repeat k_all
      rename Fm _ _ _ _ _ _ _ _ _ => F; refine lenL_ F (F.listAt (.tail _ (.tail _ (.tail _ (.head _))))) (by rw [List.size_toArray, b5.length]; omega) ?_; clear F; intro t5 s5 F
      repeat k_all
      rw [List.size_toArray, b5.length]
      refine if_d (fun hg => ?_) fun hg => ?_
      · rcases List.eq_nil_or_concat gs' with rfl | ⟨gs2, ⟨p, h⟩, eg⟩
        · simp at hg
        rw [List.concat_eq_append] at eg
        subst eg
        obtain ⟨us, v, rfl, c5, c6⟩ := b5.unsnoc
        cases c6 with
        | mk hv6 =>
        repeat k_all
        refine Assign_Tuple ?_ (by with_unfolding_all rfl) (by with_unfolding_all rfl)
        repeat k_all
        rename Fm _ _ _ _ _ _ _ _ _ => F; refine wattr_ F b1 b2 .head (wG_guards w) (by intros; rfl) rfl ?_; clear F; intro s6 F
        repeat k_all
        rename Fm _ _ _ _ _ _ _ _ _ => F; refine pop_ F (.tail (.tail (.tail .head))) (by rw [c5.length]; rw [List.length_append] at hgl; omega) ?_; clear F; intro s7 F
        repeat k_all
        rename Fm _ _ _ _ _ _ _ _ _ => F
        refine unpackT2_ F hh (F.tupR hv6) ?_
        clear F; intro s8 F
        repeat k_all
        rename Fm _ _ _ _ _ _ _ _ _ => F; refine wattr_ F b1 b2 .head (wG_stack w) (by intros; rfl) rfl ?_; clear F; intro s9 F
        repeat k_all
        refine slice_ ?_
        refine wpAny_evalPart_none ?_
        refine wpAny_evalPart_some ?_
        repeat k_all
        rename Fm _ _ _ _ _ _ _ _ _ => F; refine sliceTo_ F (F.listAt (.tail _ (.head _))) (by omega) (by rw [StrsAre.length' b4]; omega) ?_; clear F; intro sc s10 F hn_sc
        repeat k_all
        rename Fm _ _ _ _ _ _ _ _ _ => F
        refine wsetStack_ (led' := fun o' => [(sc, _), (dx', o'), (sb3, _), (th, _), (ga, _)]) F b1 b2 (fun o' => .tail .head) (wS_stack w) ?_
        clear F
        intro od4 s11 b2' F
        have F9 := (F.perm (List.perm_middle (l₁ := [_, _]).symm)).drop.swap
        clear F
        repeat k_all
        rename Fm _ _ _ _ _ _ _ _ _ => F
        rw [Int.toNat_natCast] at F
        exact h2 hb _ _ _ rfl _ _ le3 ⟨_, _, _, _, _, _, _, _, _, _, _, _, _, F, b1, b2', b3, StrsAre.takes b4 _, c5, b6⟩
      · have hg0 : gs' = [] := by
          cases gs' with
          | nil => rfl
          | cons a b => simp at hg
        repeat k_all
        rename Fm _ _ _ _ _ _ _ _ _ => F
        have F9 : Fm (hd.heap_1 w.params) env _ [th] _ R3 _ ((th, listOf nvs3.toArray kn3) :: (ga, listOf gvs3.toArray gn3) :: []) _ := F.drop.drop
        exact h3 hb hg0 _ _ _ _ _ le3 F9.swap.drop b6
end

-- LGo
mutual
noncomputable def SafeO : Nat → Ord → List Str → List Note → Prop
  | _, .sim o, st, ns => Fits o st ns
  | 0, .not _, _, _ => False
  | d + 1, .not b, st, ns => st.length ≤ 900 ∧ b.length ≤ 1000 ∧ SafeB d b st ns
noncomputable def SafeB : Nat → List Ord → List Str → List Note → Prop
  | _, [], _, _ => True
  | d, o :: r, st, ns => SafeO d o st ns ∧ ∀ st', (goesO o st ns).1 = some st' → SafeB d r st' (goesO o st ns).2
end
noncomputable def Sim.first : Sim → Int
  | .var _ | .ref _ | .kw _ | .del _ => 0
  | .bin _ | .join | .given _ => 2
  | _ => 1
theorem OrdsR.get {R : Imm} {vs : List Value} {os : List Ord} (h : OrdsR R vs os) {i : Nat} {v : Value} (hv : vs[i]? = some v) : ∃ o, os[i]? = some o ∧ OrdR R v o := by
  induction os generalizing vs i with
  | nil => cases h; simp at hv
  | cons o os ih =>
    cases h with
    | cons h1 h2 =>
      cases i with
      | zero => simp at hv; subst hv; exact ⟨_, rfl, h1⟩
      | succ i => simp at hv ⊢; exact ih h2 hv

theorem word_call {o : Sim} (h : o.word = Str.ofString "CALL") : ∃ f m c, o = .call f m c := by
  cases o <;> first | exact ⟨_, _, _, rfl⟩ | exact absurd h (by simp only [Sim.word]; decide)
theorem word_item {o : Sim} (h : o.word = Str.ofString "ITEM") : ∃ m c, o = .item m c := by
  cases o <;> first | exact ⟨_, _, rfl⟩ | exact absurd h (by simp only [Sim.word]; decide)
theorem word_given {o : Sim} (h : o.word = Str.ofString "GIVEN") : ∃ y, o = .given y := by
  cases o <;> first | exact ⟨_, rfl⟩ | exact absurd h (by simp only [Sim.word]; decide)
theorem word_join {o : Sim} (h : o.word = Str.ofString "JOIN") : o = .join := by
  cases o <;> first | rfl | exact absurd h (by simp only [Sim.word]; decide)
theorem word_oper {o : Sim} (h : [Str.ofString "UNARY", Str.ofString "BINARY", Str.ofString "JOIN"].any (· == o.word) = true) (hj : o.word ≠ Str.ofString "JOIN") : ∃ y, o = .un y ∨ o = .bin y := by
  cases o <;> first | exact ⟨_, .inl rfl⟩ | exact ⟨_, .inr rfl⟩ | exact absurd h (by simp only [Sim.word]; decide) | exact absurd rfl hj
theorem many_rest {o : Sim} (h1 : o.word ≠ Str.ofString "CALL") (h2 : o.word ≠ Str.ofString "ITEM") (hq : o.quiet = false) : (o.many : Int) = o.first := by
  cases o <;> first | rfl | exact absurd rfl h1 | exact absurd rfl h2 | cases hq
theorem quiet_word {o : Sim} (hq : o.quiet = false) : o.word ≠ Str.ofString "NOT" ∧ o.word ≠ Str.ofString "PUSH" ∧ o.word ≠ Str.ofString "DOUBLE" := by
  cases o <;> first | (simp only [Sim.word]; exact ⟨by decide, by decide, by decide⟩) | cases hq
noncomputable abbrev dict1 : List (PyData × PyData) := [(.str "VAR", .int 0), (.str "REF", .int 0), (.str "KEYWORD", .int 0), (.str "DELAYED", .int 0), (.str "BINARY", .int 2), (.str "JOIN", .int 2), (.str "GIVEN", .int 2)]
theorem dict1_nd : (strKeysOf dict1).Nodup := by decide +kernel
theorem dict1_k : strKeyed dict1 = true := by decide +kernel
theorem dict1_get (o : Sim) : (Spec.lookup (.str o.word) dict1).getD (.int 1) = .int o.first := by cases o <;> rfl
theorem goesB_not_t {b r : List Ord} {st : List Str} {ns : List Note} (e : (goesB b st ns).1.isSome = true) : goesB (.not b :: r) st ns = (none, (goesB b st ns).2) := by
  simp only [goesB, goesO]
  rcases hq : goesB b st ns with ⟨_ | st', ns'⟩
  · rw [hq] at e; cases e
  · rfl
theorem goesO_not_f {b : List Ord} {st : List Str} {ns : List Note} (e : (goesB b st ns).1.isSome = false) : goesO (.not b) st ns = (some (st ++ [Str.ofString ""]), (goesB b st ns).2) := by
  simp only [goesO]
  rcases hq : goesB b st ns with ⟨_ | st', ns'⟩
  · rfl
  · rw [hq] at e; cases e
theorem goesB_cons_some {o : Ord} {r : List Ord} {st st' : List Str} {ns ns' : List Note} (e : goesO o st ns = (some st', ns')) : goesB (o :: r) st ns = goesB r st' ns' := by simp only [goesB, e]
theorem goesB_cons_none {o : Ord} {r : List Ord} {st : List Str} {ns ns' : List Note} (e : goesO o st ns = (none, ns')) : goesB (o :: r) st ns = (none, ns') := by simp only [goesB, e]
section
variable {prog : Program} {w : World} {s : Shared} {R : Imm} {A : Around} {E : Value → Shared → Prop} {th sa bl : Addr}

structure GoT where
  R : Imm
  st : List Str
  ns : List Note
  vs : List Value
  n : Nat
  nvs : List Value
  kn : Nat
  v1 : Option Value
  v2 : Option Value
  v3 : Option Value
  v4 : Option Value
  v5 : Option Value
  v6 : Option Value
  v7 : Option Value
structure AsT where
  R : Imm
  a : Addr
  p : Addr
  t : Tok
  pvs : List Value
  kp : Nat
theorem step_nq {o : Sim} {st : List Str} {ns : List Note} (hq : o.quiet = false) : step o st ns = ((said (o.asks (under o st)).1 (o.asks (under o st)).2).map fun x => base o st ++ [x], ns ++ [o.asks (under o st)]) := by
  cases o <;> first | rfl | cases hq
theorem asks_ne {o : Sim} {u : List Str} : (o.asks u).1 ≠ Str.ofString "match" := by
  cases o <;> (simp only [Sim.asks]; decide)
noncomputable abbrev dict2 : List (PyData × PyData) := [(.str "VAR", .str "read"), (.str "REF", .str "var")]
theorem dict2_nd : (strKeysOf dict2).Nodup := by decide +kernel
theorem dict2_k : strKeyed dict2 = true := by decide +kernel
theorem word_len (o : Sim) : o.word.length ≤ 20 := by cases o <;> exact Nat.le_of_ble_eq_true rfl
theorem word_rest {o : Sim} (h1 : o.word ≠ Str.ofString "CALL") (h2 : o.word ≠ Str.ofString "ITEM") (h3 : [Str.ofString "UNARY", Str.ofString "BINARY", Str.ofString "JOIN"].any (· == o.word) = false) (h4 : o.word ≠ Str.ofString "GIVEN") (hq : o.quiet = false) :
    (o.many = 1 ∧ (∀ u, o.asks u = (Txt.lower o.word, u.map .s))) ∨ (o.many = 0 ∧ ∃ x, Sim.lits o = [.s o.word, .s x] ∧ ∀ u, (o.asks u).2 = [.s x] ∧ (Spec.lookup (.str o.word) dict2).getD (.str (Txt.lower o.word)) = .str (o.asks u).1) := by
  cases o with
  | call => exact absurd rfl h1
  | item => exact absurd rfl h2
  | given => exact absurd rfl h4
  | push => cases hq
  | double => cases hq
  | un => exfalso; revert h3; simp only [Sim.word]; decide
  | bin => exfalso; revert h3; simp only [Sim.word]; decide
  | join => exfalso; revert h3; simp only [Sim.word]; decide
  | var x => exact .inr ⟨rfl, x, rfl, fun u => ⟨rfl, rfl⟩⟩
  | ref x => exact .inr ⟨rfl, x, rfl, fun u => ⟨rfl, rfl⟩⟩
  | kw x => exact .inr ⟨rfl, x, rfl, fun u => ⟨rfl, (show (Spec.lookup (.str (Str.ofString "KEYWORD")) dict2).getD (.str (Txt.lower (Str.ofString "KEYWORD"))) = .str (Txt.lower (Str.ofString "KEYWORD")) from rfl).trans (congrArg PyData.str (show Txt.lower (Str.ofString "KEYWORD") = Str.ofString "keyword" by decide +kernel))⟩⟩
  | del x => exact .inr ⟨rfl, x, rfl, fun u => ⟨rfl, (show (Spec.lookup (.str (Str.ofString "DELAYED")) dict2).getD (.str (Txt.lower (Str.ofString "DELAYED"))) = .str (Txt.lower (Str.ofString "DELAYED")) from rfl).trans (congrArg PyData.str (show Txt.lower (Str.ofString "DELAYED") = Str.ofString "delayed" by decide +kernel))⟩⟩
  | value => exact .inl ⟨rfl, fun u => by simp only [Sim.word, Sim.asks]; congr 1⟩
  | indirect => exact .inl ⟨rfl, fun u => by simp only [Sim.word, Sim.asks]; congr 1⟩
  | cursor => exact .inl ⟨rfl, fun u => by simp only [Sim.word, Sim.asks]; congr 1⟩
theorem StrsAre.split0 {vs : List Value} {u : List Str} (h : StrsAre vs u) (h0 : 0 < u.length) : ∃ t us, vs = .str (u.headD "") t :: us ∧ StrsAre us u.tail := by
  cases h with
  | nil => exact absurd h0 (Nat.lt_irrefl _)
  | cons y t h => exact ⟨t, _, rfl, h⟩
theorem lits_two {vs : List Value} {a b : Str} (h : LitsAre vs [.s a, .s b]) : ∃ t u, vs = [.str a t, .str b u] := by
  rcases h with _ | h
  rcases h with _ | h
  cases h
  exact ⟨_, _, rfl⟩
structure PoT where
  vs : List Value
  n : Nat
  v : Option Value
theorem take_pred {vs : List Value} {i : Nat} (h : i < vs.length) : ∃ y, vs.take (vs.length - i) = vs.take (vs.length - (i + 1)) ++ [y] := by
  have e : vs.length - i = (vs.length - (i + 1)) + 1 := by omega
  rw [e]
  exact ⟨_, take_succ_get (List.getElem?_eq_getElem (by omega))⟩
noncomputable def goL (bl sa th : Addr) (v1 v2 v3 v4 v5 v6 v7 : Option Value) : List (Str × Option Value) :=
  [("block", some (.ref bl)), ("stack", some (.ref sa)), ("notes", some (.ref th)), ("order", v1), ("word", v2), ("many", v3), ("under", v4), ("turn", v5), ("asked", v6), ("told", v7)]

set_option maxHeartbeats 4000000 in
theorem goes_ (d : Nat) : ∀ {A : Around} {E : Value → Shared → Prop} {s : Shared} {R : Imm} {sa bl : Addr} {b : List Ord} {st : List Str} {ns : List Note} {vs nvs bvs : List Value} {n kn k : Nat} {Q : Value → Shared → Prop},
    Rm (4 + 3 * d) A → Ok (hd.heap_1 w.params) R s → Led R [(sa, listOf vs.toArray n), (th, listOf nvs.toArray kn)] s → StrsAre vs st → NotesR R nvs ns → R bl = some (listOf bvs.toArray k) → OrdsR R bvs b → b.length ≤ 1000 → SafeB d b st ns →
    (∀ s' R' vs' n' nvs' kn', Post (hd.heap_1 w.params) s [sa, th] R R' [(sa, listOf vs'.toArray n'), (th, listOf nvs'.toArray kn')] s' → Le R R' → NotesR R' nvs' (goesB b st ns).2 → (∀ st', (goesB b st ns).1 = some st' → StrsAre vs' st') → Q (.bool (goesB b st ns).1.isSome) s') →
    wpAny (model prog w) A (call (.ref 315) [.ref bl, .ref sa, .ref th]) Q E s := by
  induction d using Nat.strongRecOn with
  | ind d ih =>
  intro A E s R sa bl b st ns vs nvs bvs n kn k Q hA O hl hst hN hbl hB hbz hsafe h
  have hA : Rm (3 + 3 * d + 1) A := hA.le (by omega)
  refine' enter_ (n := (3 + 3 * d)) ["block", "stack", "notes"] ["order", "word", "many", "under", "turn", "asked", "told"] [("_law_goes", .ref 315), ("len", .builtin "len"), ("range", .type "range"), ("_law_said", .ref 308)] hA O hl ?ho ?hcd ?hc ?hg ?hlen ?hbind ?_
  case ho => k_is
  case hcd => k_is
  case hc => decide +kernel
  case hg => exact (List.forall_mem_cons.mpr ⟨gl_goes w, (List.forall_mem_cons.mpr ⟨gl_len w, (List.forall_mem_cons.mpr ⟨gl_range w, (List.forall_mem_cons.mpr ⟨gl_said w, (fun _ h => nomatch h)⟩)⟩)⟩)⟩)
  case hlen => rfl
  case hbind => exact BindsTo.of_eq rfl
  intro env s' q1 q2 F G hA'
  simp only [l0, List.zip, List.zipWith, List.map, List.nil_append, List.cons_append] at F
  have hh := hA'.hd
  repeat k_all
  refine For_ ?_
  repeat k_all
  rename Fm _ _ _ _ _ _ _ _ _ => F
  refine iterL_ F (F.listR hbl) ?_
  clear F; intro it o s5 ho hn_it F
  refine forL_all (τ := GoT) (fun c => c.R) (fun c => goL bl sa th c.v1 c.v2 c.v3 c.v4 c.v5 c.v6 c.v7) (fun c v => goL bl sa th (some v) c.v2 c.v3 c.v4 c.v5 c.v6 c.v7)
    (fun c => [(sa, listOf c.vs.toArray c.n), (th, listOf c.nvs.toArray c.kn)])
    (fun i c => Le R c.R ∧ goesB b st ns = goesB (b.drop i) c.st c.ns ∧ SafeB d (b.drop i) c.st c.ns ∧ StrsAre c.vs c.st ∧ NotesR c.R c.nvs c.ns)
    hh hn_it (fun c v => .tail (.tail (.tail .head))) (fun i c hp => hp.1 _ _ hbl) ?turn ?done _ _ ⟨R, st, ns, vs, n, nvs, kn, none, none, none, none, none, none, none⟩ _ _ (Nat.zero_add _) ⟨.refl, rfl, hsafe, hst, hN⟩ ho F
  case done =>
    clear F
    intro c s6 hc F
    obtain ⟨c1, c2, c3, c4, c5⟩ := hc
    rw [show b.drop bvs.toArray.size = [] by rw [List.size_toArray, hB.length, List.drop_length]] at c2 c3
    repeat k_all
    rename Fm _ _ _ _ _ _ _ _ _ => F
    refine (show (goesB b st ns).1 = some c.st ∧ (goesB b st ns).2 = c.ns by rw [c2]; exact ⟨rfl, rfl⟩).elim fun e1 e2 => ?_
    have hh := h _ _ _ _ _ _ F.post c1 (by rw [e2]; exact c5) (fun st' e => by rw [e1] at e; cases e; exact c4)
    rw [e1] at hh
    exact hh
  case turn =>
    clear F
    intro i v c s6 o6 hv hc F
    obtain ⟨R1, st1, ns1, vs1, n1, nvs1, kn1, v1, v2, v3, v4, v5, v6, v7⟩ := c
    obtain ⟨le1, c2, c3, c4, c5⟩ := hc
    obtain ⟨od, hod, hov⟩ := (hB.mono le1).get (by simpa using hv)
    have hdrop : b.drop i = od :: b.drop (i + 1) := by
      obtain ⟨hi, e⟩ := List.getElem?_eq_some_iff.mp hod
      rw [← e]; exact List.drop_eq_getElem_cons hi
    rw [hdrop] at c2 c3
    dsimp only at F c2 c3 c4 c5 le1
    unfold goL at F
    have hlen1 := StrsAre.length' c4
    cases hov with
    | not h1 h2 h3 =>
      cases d with
      | zero => exact c3.1.elim
      | succ d =>
      obtain ⟨⟨sf1, sf2, sf3⟩, sf4⟩ := c3
      repeat k_all
      rename Fm _ _ _ _ _ _ _ _ _ => F; refine itemT_ (its := [_, _]) (F.tupR h1) (by decide) rfl (Nat.le_of_ble_eq_true rfl) ?_
      repeat k_all
      rename Fm _ _ _ _ _ _ _ _ _ => F; refine itemT_ (its := [_, _]) (F.tupR h1) (by decide) rfl (Nat.le_of_ble_eq_true rfl) ?_
      repeat k_all
      refine slice_ ?_
      refine wpAny_evalPart_none ?_
      refine wpAny_evalPart_none ?_
      rename Fm _ _ _ _ _ _ _ _ _ => F; refine sliceAll_ F (F.listAt (.tail _ (.head _))) (by omega) ?_; clear F; intro sc s10 F hn_sc
      repeat k_all
      rename Fm _ _ _ _ _ _ _ _ _ => F
      have F9 := (F.rot4)
      clear F
      rename Fm _ _ _ _ _ _ _ _ _ => F
      refine ih d (Nat.lt_succ_self d) (hA'.le (by omega)) F.out.ok (F.front (l1 := [_, _])) c4 c5 h2 h3 sf2 sf3 ?_
      intro s11 R11 vs11 n11 nvs11 kn11 P11 le11 hN11 hst11
      have F11 := F.after2 P11
      simp only [List.append_nil, List.cons_append, List.nil_append] at F11
      have F12 := F11.drop.rot3'
      clear F F11
      repeat k_all
      refine if_c (fun e => ?_) fun e => ?_
      · repeat k_all
        rename Fm _ _ _ _ _ _ _ _ _ => F
        have eg : goesB b st ns = _ := c2.trans (goesB_not_t e)
        have hh := h _ _ _ _ _ _ F.drop.post (le1.trans le11) (by rw [eg]; exact hN11) (fun st' q => by rw [eg] at q; cases q)
        rw [eg] at hh
        exact hh
      · repeat k_all
        rename Fm _ _ _ _ _ _ _ _ _ => F; refine ex_ F ?_ (by with_unfolding_all rfl)
        repeat k_all
        rename Fm _ _ _ _ _ _ _ _ _ => F; refine appL_ F (.tail .head) (by omega) ?_; clear F; intro s12 F
        repeat k_all
        rename Fm _ _ _ _ _ _ _ _ _ => F
        have eg := goesO_not_f e
        exact turnK_next ⟨R11, st1 ++ [Str.ofString ""], _, _, _, _, _, _, _, _, _, _, _, _⟩ ⟨le1.trans le11, c2.trans (goesB_cons_some eg), by have q := sf4 (st1 ++ [Str.ofString ""]) (by rw [eg]); rw [eg] at q; exact q, StrsAre.snoc' c4, hN11⟩ F
    | @sim oa ovs ko o h1 h2 =>
      obtain ⟨fit, sf4⟩ := c3
      have fit' : Fits o st1 ns1 := fit
      obtain ⟨f1, f2, f3, f4⟩ := fit'
      rcases hq : o.quiet with _ | _
      case true =>
        cases o with
        | push y =>
          rcases h2 with _ | h2
          rcases h2 with _ | h2
          cases h2
          repeat k_all
          rename Fm _ _ _ _ _ _ _ _ _ => F; refine itemT_ (F.tupR h1) (by decide) rfl (Nat.le_of_ble_eq_true rfl) ?_
          repeat k_all
          rename Fm _ _ _ _ _ _ _ _ _ => F; refine ex_ F ?_ (by with_unfolding_all rfl)
          repeat k_all
          rename Fm _ _ _ _ _ _ _ _ _ => F; refine itemT_ (F.tupR h1) (by decide) rfl (Nat.le_of_ble_eq_true rfl) ?_
          repeat k_all
          rename Fm _ _ _ _ _ _ _ _ _ => F; refine appL_ F (.tail .head) (by omega) ?_; clear F; intro s12 F
          repeat k_all
          rename Fm _ _ _ _ _ _ _ _ _ => F
          exact turnK_next ⟨R1, st1 ++ [y], ns1, _, _, _, _, _, _, _, _, _, _, _⟩ ⟨le1, c2.trans (goesB_cons_some rfl), sf4 _ rfl, StrsAre.snoc' c4, c5⟩ F
        | double =>
          rcases h2 with _ | h2
          cases h2
          obtain ⟨us, t, rfl, hus⟩ := StrsAre.split1 c4 f1
          repeat k_all
          rename Fm _ _ _ _ _ _ _ _ _ => F; refine itemT_ (its := [_]) (F.tupR h1) (by decide) rfl (Nat.le_of_ble_eq_true rfl) ?_
          repeat k_all
          rename Fm _ _ _ _ _ _ _ _ _ => F; refine ex_ F ?_ (by with_unfolding_all rfl)
          repeat k_all
          rename Fm _ _ _ _ _ _ _ _ _ => F; refine negI_ F ?_; clear F; intro t4 s4 F
          repeat k_all
          rename Fm _ _ _ _ _ _ _ _ _ => F
          refine itemN_ (its := (us ++ [Value.str (st1.getLastD "") t]).toArray) (v := .str (st1.getLastD "") t) (F.listAt (.tail _ (.head _))) (by decide) (by rw [List.size_toArray, List.length_append]; show -(((us.length + 1 : Nat)) : Int) ≤ -1; omega) (by rw [List.size_toArray]; omega) (by rw [List.size_toArray, List.length_append]; show (us ++ [_]).toArray[((-1 : Int) + ((us.length + 1 : Nat) : Int)).toNat]? = _; rw [show ((-1 : Int) + ((us.length + 1 : Nat) : Int)).toNat = us.length by omega]; simp) ?_
          repeat k_all
          rename Fm _ _ _ _ _ _ _ _ _ => F; refine appL_ F (.tail .head) (by omega) ?_; clear F; intro s12 F
          repeat k_all
          rename Fm _ _ _ _ _ _ _ _ _ => F
          exact turnK_next ⟨R1, st1 ++ [st1.getLastD ""], ns1, _, _, _, _, _, _, _, _, _, _, _⟩ ⟨le1, c2.trans (goesB_cons_some rfl), sf4 _ rfl, StrsAre.snoc' c4, c5⟩ F
        | _ => cases hq
      case false =>
        obtain ⟨tw, rest, rfl, hol⟩ := LitsAre.word h2
        obtain ⟨w1, w2, w3⟩ := quiet_word hq
        repeat k_all
        rename Fm _ _ _ _ _ _ _ _ _ => F; refine itemT_ (F.tupR h1) (by decide) rfl (Nat.lt_of_le_of_lt hol (by decide)) ?_
        repeat k_all
        refine if_e (α := Str) (fun q => absurd q w1) fun _ => ?_
        repeat k_all
        refine if_e (α := Str) (fun q => absurd q w2) fun _ => ?_
        repeat k_all
        refine if_e (α := Str) (fun q => absurd q w3) fun _ => ?_
        repeat k_all
        rename Fm _ _ _ _ _ _ _ _ _ => F
        with_reducible refine' dl_ (D := dict1) F ?da dict1_k dict1_nd ?db ?dc ?dd ?de ?_
        case da => with_unfolding_all rfl
        case db => rfl
        case dc => rfl
        case dd => exact List.cons_ne_nil _ _
        case de => exact Nat.le_of_ble_eq_true rfl
        clear F; intro da do_ s13 hta hda F hn_da
        repeat k_all
        rename Fm _ _ _ _ _ _ _ _ _ => F; refine dgm_ F hta hda .head ?_
        repeat k_all
        rename Fm _ _ _ _ _ _ _ _ _ => F
        refine dg2_ F hta hda .head (dd := .int 1) (fun _ => .int _ _) ?_
        clear F; intro mv s14 hmv F
        obtain ⟨tm, rfl⟩ : ∃ t, mv = .int o.first t := by
          have hmv' : PyProof.V.Flat mv (.int o.first) := by rw [← dict1_get o]; exact hmv
          have q := hmv' {}
          cases q; exact ⟨_, rfl⟩
        have F := F.drop
        (refine' st_ F ?m ?_); (case m => kqd_sub)
        clear F; intro s15 F
        k_unfold
        refine thenK_next ?_
        refine seq_ ?_
        k_fold
        refine cutX_ (K := (hd.heap_1 w.params)) (env := env) (se := s) (S := [sa, th]) (R₀ := R) (X := Tok) Flow.next (fun _ => R1) (fun t => goL bl sa th (some (.ref oa)) (some (.str o.word tw)) (some (.int o.many t)) v4 v5 v6 v7) (fun _ => [(it, o6), (sa, listOf vs1.toArray n1), (th, listOf nvs1.toArray kn1)]) (fun _ => True) ?c1 ?c2
        case c1 =>
          repeat k_all
          refine if_e (α := Str) (fun q => ?_) fun q1 => ?_
          · obtain ⟨f, m, c, rfl⟩ := word_call q
            rcases h2 with _ | h2
            rcases h2 with _ | h2
            rcases h2 with _ | h2 | h2
            rcases h2 with _ | h2 | h2 | h2
            cases h2
            repeat k_all
            rename Fm _ _ _ _ _ _ _ _ _ => F; refine itemT_ (F.tupR h1) (by decide) rfl (Nat.le_of_ble_eq_true rfl) ?_
            repeat k_all
            rename Fm _ _ _ _ _ _ _ _ _ => F
            exact ⟨rfl, _, trivial, F⟩
          · repeat k_all
            refine if_e (α := Str) (fun q => ?_) fun q2 => ?_
            · obtain ⟨m, c, rfl⟩ := word_item q
              rcases h2 with _ | h2
              rcases h2 with _ | h2 | h2
              rcases h2 with _ | h2 | h2 | h2
              cases h2
              repeat k_all
              rename Fm _ _ _ _ _ _ _ _ _ => F; refine itemT_ (F.tupR h1) (by decide) rfl (Nat.le_of_ble_eq_true rfl) ?_
              repeat k_all
              rename Fm _ _ _ _ _ _ _ _ _ => F
              exact ⟨rfl, _, trivial, F⟩
            · repeat k_all
              rename Fm _ _ _ _ _ _ _ _ _ => F
              rw [← many_rest q1 q2 hq] at F
              exact ⟨rfl, _, trivial, F⟩
        case c2 =>
          clear F
          intro t s16 _ F
          unfold goL at F
          repeat k_all
          refine slice_ ?_
          refine wpAny_evalPart_some ?_
          repeat k_all
          rename Fm _ _ _ _ _ _ _ _ _ => F; refine lenL_ F (F.listAt (.tail _ (.head _))) (by rw [List.size_toArray, hlen1]; omega) ?_; clear F; intro t17 s17 F
          repeat k_all
          rw [List.size_toArray]
          refine wpAny_evalPart_none ?_
          have hmany : o.many ≤ vs1.length := by
            have : o.many ≤ o.need := by cases o <;> first | exact Nat.le_refl _ | cases hq
            omega
          have e_k : ((vs1.length : Int) - (o.many : Int)).toNat = vs1.length - o.many := by omega
          rename Fm _ _ _ _ _ _ _ _ _ => F; refine sliceFrom_ F (F.listAt (.tail _ (.head _))) (by omega) (by omega) ?_; clear F; intro ua s18 F hn_ua
          rw [e_k] at F
          rename Fm _ _ _ _ _ _ _ _ _ => F
          have hR_ua := F.lgr.no _ (.head _)
          have F := F.freeze hn_ua
          have hu : StrsAre (vs1.drop (vs1.length - o.many)) (under o st1) := by unfold under; rw [← hlen1]; exact StrsAre.drops c4 _
          have hb : StrsAre (vs1.take (vs1.length - o.many)) (base o st1) := by unfold base; rw [← hlen1]; exact StrsAre.takes c4 _
          obtain ⟨R2, hR2, hua, le2⟩ : ∃ R2, R2 = R1.put ua (listOf (vs1.drop (vs1.length - o.many)).toArray 0) ∧ R2 ua = some (listOf (vs1.drop (vs1.length - o.many)).toArray 0) ∧ Le R1 R2 := ⟨_, rfl, Imm.put_self, Le.put hR_ua⟩
          rw [← hR2] at F
          repeat k_all
          refine For_ ?_
          repeat k_all
          rename Fm _ _ _ _ _ _ _ _ _ => F; refine range_ (t := 0) F ?_; clear F; intro ra t19 t20 s19 F hn_ra
          rename Fm _ _ _ _ _ _ _ _ _ => F
          refine iterR_ F (by omega) ?_
          clear F; intro it2 s20 hn_it2 F
          refine forR_all (τ := PoT) (fun _ => R2) (fun c => goL bl sa th (some (.ref oa)) (some (.str o.word tw)) (some (.int o.many t)) (some (.ref ua)) c.v v6 v7) (fun c v => goL bl sa th (some (.ref oa)) (some (.str o.word tw)) (some (.int o.many t)) (some (.ref ua)) (some v) v6 v7)
            (fun c => [(it, o6), (sa, listOf c.vs.toArray c.n), (th, listOf nvs1.toArray kn1)]) (fun i c => c.vs = vs1.take (vs1.length - i))
            hh hn_it2 (fun c v => .tail (.tail (.tail (.tail (.tail (.tail (.tail .head))))))) ?tturn ?tdone _ _ ⟨vs1, n1, v5⟩ _ (Nat.zero_add _) (by simp) F
          case tturn =>
            clear F
            intro j tj c s21 o21 hj hc F
            obtain ⟨cvs, cn, cv⟩ := c
            dsimp only at hc F
            obtain ⟨y, hy⟩ := take_pred (vs := vs1) (i := j) (by omega)
            rw [hc, hy] at F
            unfold goL at F
            repeat k_all
            rename Fm _ _ _ _ _ _ _ _ _ => F; refine ex_ F ?_ (by with_unfolding_all rfl)
            repeat k_all
            rename Fm _ _ _ _ _ _ _ _ _ => F; refine pop_ F (.tail (.tail .head)) (by rw [List.length_take]; omega) ?_; clear F; intro s22 F
            repeat k_all
            rename Fm _ _ _ _ _ _ _ _ _ => F
            exact turnK_next ⟨_, _, _⟩ rfl F
          case tdone =>
            clear F
            intro c s21 hc F
            obtain ⟨cvs, cn, cv⟩ := c
            dsimp only at hc F
            subst hc
            unfold goL at F
            refine thenK_next ?_
            refine seq_ ?_
            k_fold
            refine cutX_ (K := (hd.heap_1 w.params)) (env := env) (se := s) (S := [sa, th]) (R₀ := R) (X := AsT) Flow.next (fun y => y.R) (fun y => goL bl sa th (some (.ref oa)) (some (.str o.word tw)) (some (.int o.many t)) (some (.ref ua)) cv (some (.ref y.a)) v7) (fun _ => [(it, o6), (sa, listOf (vs1.take (vs1.length - o.many)).toArray cn), (th, listOf nvs1.toArray kn1)])
              (fun y => Le R2 y.R ∧ y.R y.a = some (tupOf #[.str (o.asks (under o st1)).1 y.t, .ref y.p] 0) ∧ y.R y.p = some (listOf y.pvs.toArray y.kp) ∧ PartsR y.R y.pvs (o.asks (under o st1)).2) ?a1 ?a2
            case a1 =>
              repeat k_all
              refine if_e (α := Str) (fun q => ?_) fun q1 => ?_
              · obtain ⟨f, m, c, rfl⟩ := word_call q
                rcases h2 with _ | h2
                rcases h2 with _ | h2
                rcases h2 with _ | h2 | h2
                rcases h2 with _ | h2 | h2 | h2
                cases h2
                repeat k_all
                rename Fm _ _ _ _ _ _ _ _ _ => F; refine itemT_ (F.tupR (le2 _ _ h1)) (by decide) rfl (Nat.le_of_ble_eq_true rfl) ?_
                repeat k_all
                rename Fm _ _ _ _ _ _ _ _ _ => F; refine itemT_ (F.tupR (le2 _ _ h1)) (by decide) rfl (Nat.le_of_ble_eq_true rfl) ?_
                repeat k_all
                rename Fm _ _ _ _ _ _ _ _ _ => F; refine nlR_ F ?_ (Nat.le_of_ble_eq_true rfl); clear F; intro p s_p hR_p F hn_p
                repeat k_all
                rename Fm _ _ _ _ _ _ _ _ _ => F; refine ntR_ F ?_ (Nat.le_of_ble_eq_true rfl); clear F; intro a s_a hR_a F hn_a
                repeat k_all
                rename Fm _ _ _ _ _ _ _ _ _ => F
                exact ⟨rfl, ⟨_, a, p, _, _, 0⟩, by (exact ⟨(Le.put hR_p).trans (Le.put hR_a), Imm.put_self, Le.put hR_a _ _ Imm.put_self, .cons .s (.cons (.l (Le.put hR_a _ _ (Le.put hR_p _ _ hua)) hu) (.cons .b .nil))⟩), F⟩
              repeat k_all
              refine if_e (α := Str) (fun q => ?_) fun q2 => ?_
              · obtain ⟨m, c, rfl⟩ := word_item q
                rcases h2 with _ | h2
                rcases h2 with _ | h2 | h2
                rcases h2 with _ | h2 | h2 | h2
                cases h2
                have hul : 0 < (under (.item m c) st1).length := by
                  unfold under; rw [List.length_drop]; show 0 < st1.length - (st1.length - (m + 1)); have : m + 1 ≤ st1.length := f1; omega
                obtain ⟨th0, us, e_us, hus⟩ := StrsAre.split0 hu hul
                rw [e_us] at hua
                repeat k_all
                rename Fm _ _ _ _ _ _ _ _ _ => F; refine itemL_ (v := .str ((under (.item m c) st1).headD "") th0) (F.listR hua) (by decide) (by decide) rfl ?_
                repeat k_all
                refine slice_ ?_
                refine wpAny_evalPart_some ?_
                repeat k_all
                refine wpAny_evalPart_none ?_
                rename Fm _ _ _ _ _ _ _ _ _ => F; refine sliceFrom_ F (F.listR hua) (by decide) (by rw [← e_us, List.length_drop]; omega) ?_; clear F; intro ub s30 F hn_ub
                rename Fm _ _ _ _ _ _ _ _ _ => F
                have hR_ub := F.lgr.no _ (.head _)
                have F := F.freeze hn_ub
                repeat k_all
                rename Fm _ _ _ _ _ _ _ _ _ => F; refine itemT_ (F.tupR (Le.put hR_ub _ _ (le2 _ _ h1))) (by decide) rfl (Nat.le_of_ble_eq_true rfl) ?_
                repeat k_all
                rename Fm _ _ _ _ _ _ _ _ _ => F; refine nlR_ F ?_ (Nat.le_of_ble_eq_true rfl); clear F; intro p s_p hR_p F hn_p
                repeat k_all
                rename Fm _ _ _ _ _ _ _ _ _ => F; refine ntR_ F ?_ (Nat.le_of_ble_eq_true rfl); clear F; intro a s_a hR_a F hn_a
                repeat k_all
                rename Fm _ _ _ _ _ _ _ _ _ => F
                exact ⟨rfl, ⟨_, a, p, _, _, 0⟩, by (exact ⟨(Le.put hR_ub).trans ((Le.put hR_p).trans (Le.put hR_a)), Imm.put_self, Le.put hR_a _ _ Imm.put_self, .cons .s (.cons (.l (Le.put hR_a _ _ (Le.put hR_p _ _ Imm.put_self)) hus) (.cons .b .nil))⟩), F⟩
              repeat k_all
              rename Fm _ _ _ _ _ _ _ _ _ => F
              refine nt_ F ?_ (Nat.le_of_ble_eq_true rfl)
              clear F; intro z s31 F hn_z
              repeat k_all
              rename Fm _ _ _ _ _ _ _ _ _ => F
              refine inT_ F .head (by repeat constructor) ?_
              have F9 := F.drop
              clear F
              repeat k_all
              refine if_c (fun q => ?_) fun q3 => ?_
              · repeat k_all
                refine if_e (α := Str) (fun q' => ?_) fun q' => ?_
                · have eo := word_join q'
                  subst eo
                  repeat k_all
                  rename Fm _ _ _ _ _ _ _ _ _ => F; refine nlR_ F ?_ (Nat.le_of_ble_eq_true rfl); clear F; intro p s_p hR_p F hn_p
                  repeat k_all
                  rename Fm _ _ _ _ _ _ _ _ _ => F; refine ntR_ F ?_ (Nat.le_of_ble_eq_true rfl); clear F; intro a s_a hR_a F hn_a
                  repeat k_all
                  rename Fm _ _ _ _ _ _ _ _ _ => F
                  exact ⟨rfl, ⟨_, a, p, _, _, 0⟩, by (exact ⟨(Le.put hR_p).trans (Le.put hR_a), Imm.put_self, Le.put hR_a _ _ Imm.put_self, .cons .s (.cons (.l (Le.put hR_a _ _ (Le.put hR_p _ _ hua)) hu) .nil)⟩), F⟩
                · obtain ⟨y, ey⟩ := word_oper q q'
                  obtain ⟨tx, ty, eovs⟩ : ∃ tx ty, (Value.str o.word tw :: rest : List Value) = [.str o.word tx, .str y ty] := by
                    rcases ey with rfl | rfl <;> exact lits_two h2
                  rw [eovs] at h1
                  have easks : o.asks (under o st1) = (("operator", [.s y, .l (under o st1)]) : Note) := by
                    rcases ey with rfl | rfl <;> rfl
                  repeat k_all
                  rename Fm _ _ _ _ _ _ _ _ _ => F; refine itemT_ (F.tupR (le2 _ _ h1)) (by decide) rfl (Nat.le_of_ble_eq_true rfl) ?_
                  repeat k_all
                  rename Fm _ _ _ _ _ _ _ _ _ => F; refine nlR_ F ?_ (Nat.le_of_ble_eq_true rfl); clear F; intro p s_p hR_p F hn_p
                  repeat k_all
                  rename Fm _ _ _ _ _ _ _ _ _ => F; refine ntR_ F ?_ (Nat.le_of_ble_eq_true rfl); clear F; intro a s_a hR_a F hn_a
                  repeat k_all
                  rename Fm _ _ _ _ _ _ _ _ _ => F
                  exact ⟨rfl, ⟨_, a, p, _, _, 0⟩, by (rw [easks]; exact ⟨(Le.put hR_p).trans (Le.put hR_a), Imm.put_self, Le.put hR_a _ _ Imm.put_self, .cons .s (.cons (.l (Le.put hR_a _ _ (Le.put hR_p _ _ hua)) hu) .nil)⟩), F⟩
              repeat k_all
              refine if_e (α := Str) (fun q => ?_) fun q4 => ?_
              · obtain ⟨y, rfl⟩ := word_given q
                rcases h2 with _ | h2
                rcases h2 with _ | h2
                cases h2
                repeat k_all
                rename Fm _ _ _ _ _ _ _ _ _ => F; refine itemT_ (F.tupR (le2 _ _ h1)) (by decide) rfl (Nat.le_of_ble_eq_true rfl) ?_
                repeat k_all
                rename Fm _ _ _ _ _ _ _ _ _ => F; refine nl_ F ?_ (Nat.le_of_ble_eq_true rfl); clear F; intro lz s_lz F hn_lz
                repeat k_all
                rename Fm _ _ _ _ _ _ _ _ _ => F; refine addL_ F (F.listAt (.head _)) (F.listR hua) (by rw [List.size_toArray, List.size_toArray, List.length_drop]; show 1 + _ ≤ 100000; omega) ?_; clear F; intro p s32 F hn_p
                rename Fm _ _ _ _ _ _ _ _ _ => F
                have hR_p := F.lgr.no _ (.head _)
                have F := F.freeze hn_p
                have F9 := F.drop
                clear F
                repeat k_all
                rename Fm _ _ _ _ _ _ _ _ _ => F; refine ntR_ F ?_ (Nat.le_of_ble_eq_true rfl); clear F; intro a s_a hR_a F hn_a
                repeat k_all
                rename Fm _ _ _ _ _ _ _ _ _ => F
                exact ⟨rfl, ⟨_, a, p, _, _, 0⟩, by (exact ⟨(Le.put hR_p).trans (Le.put hR_a), Imm.put_self, Le.put hR_a _ _ Imm.put_self, .cons .s (StrsAre.parts hu)⟩), F⟩
              have hwr := word_rest q1 q2 q3 q4 hq
              repeat k_all
              refine if_e (α := Int) (fun q => ?_) fun q5 => ?_
              · rcases hwr with ⟨_, e⟩ | ⟨e, _⟩
                · repeat k_all
                  rename Fm _ _ _ _ _ _ _ _ _ => F; refine lower_ F (Nat.le_trans (word_len o) (by decide)) ?_; clear F; intro tl s32 F
                  repeat k_all
                  rename Fm _ _ _ _ _ _ _ _ _ => F; refine ntR_ F ?_ (Nat.le_of_ble_eq_true rfl); clear F; intro a s_a hR_a F hn_a
                  repeat k_all
                  rename Fm _ _ _ _ _ _ _ _ _ => F
                  exact ⟨rfl, ⟨_, a, ua, _, _, 0⟩, by (rw [e]; exact ⟨(Le.put hR_a), Imm.put_self, Le.put hR_a _ _ hua, StrsAre.parts hu⟩), F⟩
                · rw [e] at q; cases q
              · rcases hwr with ⟨e, _⟩ | ⟨e, y, el, e2⟩
                · exfalso; exact q5 (by rw [e]; rfl)
                · rw [el] at h2
                  obtain ⟨tx, ty, eovs⟩ := lits_two h2
                  rw [eovs] at h1
                  obtain ⟨e3, e4⟩ := e2 (under o st1)
                  repeat k_all
                  rename Fm _ _ _ _ _ _ _ _ _ => F
                  with_reducible refine' dl_ (D := dict2) F ?da dict2_k dict2_nd ?db ?dc ?dd ?de ?_
                  case da => with_unfolding_all rfl
                  case db => rfl
                  case dc => rfl
                  case dd => exact List.cons_ne_nil _ _
                  case de => exact Nat.le_of_ble_eq_true rfl
                  clear F; intro da2 do2_ s33 hta2 hda2 F hn_da2
                  repeat k_all
                  rename Fm _ _ _ _ _ _ _ _ _ => F; refine dgm_ F hta2 hda2 .head ?_
                  repeat k_all
                  rename Fm _ _ _ _ _ _ _ _ _ => F; refine lower_ F (Nat.le_trans (word_len o) (by decide)) ?_; clear F; intro tl s32 F
                  repeat k_all
                  rename Fm _ _ _ _ _ _ _ _ _ => F
                  refine dg2_ F hta2 hda2 .head (dd := .str (Txt.lower o.word)) (fun _ => .str _ _) ?_
                  clear F; intro mv2 s34 hmv2 F
                  rw [e4] at hmv2
                  obtain ⟨tm2, rfl⟩ : ∃ t, mv2 = .str (o.asks (under o st1)).1 t := by
                    have q := hmv2 {}
                    cases q; exact ⟨_, rfl⟩
                  have F9 := F.drop
                  clear F
                  repeat k_all
                  rename Fm _ _ _ _ _ _ _ _ _ => F; refine itemT_ (F.tupR (le2 _ _ h1)) (by decide) rfl (Nat.le_of_ble_eq_true rfl) ?_
                  repeat k_all
                  rename Fm _ _ _ _ _ _ _ _ _ => F; refine nlR_ F ?_ (Nat.le_of_ble_eq_true rfl); clear F; intro p s_p hR_p F hn_p
                  repeat k_all
                  rename Fm _ _ _ _ _ _ _ _ _ => F; refine ntR_ F ?_ (Nat.le_of_ble_eq_true rfl); clear F; intro a s_a hR_a F hn_a
                  repeat k_all
                  rename Fm _ _ _ _ _ _ _ _ _ => F
                  exact ⟨rfl, ⟨_, a, p, _, _, 0⟩, by (rw [e3]; exact ⟨(Le.put hR_p).trans (Le.put hR_a), Imm.put_self, Le.put hR_a _ _ Imm.put_self, .cons .s .nil⟩), F⟩
            case a2 =>
              clear F
              intro y s22 hy F
              obtain ⟨R3, a, p, tq, pvs, kp⟩ := y
              obtain ⟨le3, ha, hp, hps⟩ := hy
              dsimp only at le3 ha hp hps F
              unfold goL at F
              repeat k_all
              rename Fm _ _ _ _ _ _ _ _ _ => F; refine itemT_ (its := [_, _]) (F.tupR ha) (by decide) rfl (Nat.le_of_ble_eq_true rfl) ?_
              repeat k_all
              rename Fm _ _ _ _ _ _ _ _ _ => F; refine itemT_ (its := [_, _]) (F.tupR ha) (by decide) rfl (Nat.le_of_ble_eq_true rfl) ?_
              repeat k_all
              rename Fm _ _ _ _ _ _ _ _ _ => F
              have F := F.rot3
              refine said_ (hA'.le (by omega)) F.out.ok (F.front (l1 := [_])) (c5.mono (le2.trans le3)) hp hps (f4 hq) (by omega) ?_
              intro v s23 R4 nvs4 kn4 P4 le4 hN4 hv4
              have hv5 := AnsV.of asks_ne hv4
              have F4 := (F.after1 P4)
              simp only [List.append_nil, List.cons_append, List.nil_append] at F4
              have F4 := F4.rot3'
              clear F
              have est := step_nq (o := o) (st := st1) (ns := ns1) hq
              repeat k_all
              generalize hr : said (o.asks (under o st1)).1 (o.asks (under o st1)).2 = r at hv5 est
              cases r with
              | none =>
                have e : v = .none := hv5
                subst e
                refine isNone_ rfl ?_
                repeat k_all
                rw [beq_self_eq_true]
                repeat k_all
                rename Fm _ _ _ _ _ _ _ _ _ => F
                have eg : goesB b st ns = (none, ns1 ++ [o.asks (under o st1)]) := c2.trans (goesB_cons_none est)
                have hh := h _ _ _ _ _ _ F.drop.post (le1.trans (le2.trans (le3.trans le4))) (by rw [eg]; exact hN4) (fun st' q => by rw [eg] at q; cases q)
                rw [eg] at hh
                exact hh
              | some yv =>
                obtain ⟨ty, rfl⟩ := hv5
                refine isNone_ rfl ?_
                show wpAny _ _ (truthy (.bool false)) _ _ _
                repeat k_all
                rename Fm _ _ _ _ _ _ _ _ _ => F; refine ex_ F ?_ (by with_unfolding_all rfl)
                repeat k_all
                rename Fm _ _ _ _ _ _ _ _ _ => F; refine appL_ F (.tail .head) (by rw [List.length_take]; omega) ?_; clear F; intro s12 F
                repeat k_all
                rename Fm _ _ _ _ _ _ _ _ _ => F
                exact turnK_next ⟨R4, base o st1 ++ [yv], _, _, _, _, _, _, _, _, _, _, _, _⟩ ⟨le1.trans (le2.trans (le3.trans le4)), c2.trans (goesB_cons_some est), by have q := sf4 (base o st1 ++ [yv]) (by rw [show goesO (.sim o) st1 ns1 = step o st1 ns1 from rfl, est]; rfl); rw [show goesO (.sim o) st1 ns1 = step o st1 ns1 from rfl, est] at q; exact q, StrsAre.snoc' hb, hN4⟩ F
end

-- LFl
mutual
noncomputable def flatO : Ord → List FO
  | .sim o => [.sim o]
  | .not b => [.guard ((flatB b).length + 3)] ++ flatB b ++ [.unguard, .fail, .sim (.push (Str.ofString ""))]
noncomputable def flatB : List Ord → List FO
  | [] => []
  | o :: r => flatO o ++ flatB r
end
mutual
noncomputable def depO : Nat → Ord → Prop
  | _, .sim _ => True
  | 0, .not _ => False
  | d + 1, .not b => depB d b
noncomputable def depB : Nat → List Ord → Prop
  | _, [] => True
  | d, o :: r => depO d o ∧ depB d r
end
theorem flatB_app (a b : List Ord) : flatB (a ++ b) = flatB a ++ flatB b := by
  induction a with
  | nil => rfl
  | cons o r ih => rw [List.cons_append, flatB, ih, flatB, List.append_assoc]
theorem flatB_step {b : List Ord} {i : Nat} {o : Ord} (h : b[i]? = some o) : flatB (b.take (i + 1)) = flatB (b.take i) ++ flatO o := by
  rw [take_succ_get h, flatB_app]
  congr 1
  rw [flatB, flatB, List.append_nil]
theorem flatB_le {b : List Ord} {i : Nat} {o : Ord} (h : b[i]? = some o) : (flatB (b.take i)).length + (flatO o).length ≤ (flatB b).length := by
  have e : flatB b = flatB (b.take (i + 1)) ++ flatB (b.drop (i + 1)) := by rw [← flatB_app, List.take_append_drop]
  rw [e, flatB_step h, List.length_append, List.length_append]
  omega
theorem depB_get {d : Nat} {b : List Ord} {i : Nat} {o : Ord} (hd : depB d b) (h : b[i]? = some o) : depO d o := by
  induction b generalizing i with
  | nil => simp at h
  | cons a r ih =>
    rw [depB] at hd
    cases i with
    | zero => simp at h; subst h; exact hd.1
    | succ i => simp at h; exact ih hd.2 h
theorem Fm.sublist {K : Frag} {env : Env} {se s : Shared} {S : List Addr} {R₀ R : Imm} {l : List (Str × Option Value)} {led led' : Ledger} (F : Fm K env se S R₀ R l led s) (h : led'.Sublist led) : Fm K env se S R₀ R l led' s := by
  obtain ⟨o1, ⟨b1, b2, b3⟩, c1, c2, c3, c4, c5, c6, c7, c8⟩ := F
  exact ⟨o1, ⟨b1.sublist (h.map _), fun p hp => b2 p (h.subset hp), fun p hp => b3 p (h.subset hp)⟩, fun p hp => c1 p (h.subset hp), c2, c3, c4, c5, fun q => c6 ((h.map _).subset q), c7, c8⟩
structure FlT where
  R : Imm
  fa : Addr
  vs : List Value
  n : Nat
  v1 : Option Value
  v2 : Option Value
section
variable {prog : Program} {w : World}

set_option maxHeartbeats 1000000 in
theorem flat_ (d : Nat) : ∀ {A : Around} {E : Value → Shared → Prop} {s : Shared} {R : Imm} {bl : Addr} {b : List Ord} {bvs : List Value} {k : Nat} {Q : Value → Shared → Prop},
    Rm (d + 2) A → Ok (hd.heap_1 w.params) R s → R bl = some (listOf bvs.toArray k) → OrdsR R bvs b → depB d b → (flatB b).length ≤ 50000 →
    (∀ s' R' c fvs n, Post (hd.heap_1 w.params) s [] R R' [] s' → Le R R' → R' c = some (listOf fvs.toArray n) → FOsR R' fvs (flatB b) → Q (.ref c) s') →
    wpAny (model prog w) A (call (.ref 301) [.ref bl]) Q E s := by
  induction d using Nat.strongRecOn with
  | ind d ih =>
  intro A E s R bl b bvs k Q hA O hbl hB hdep hfl h
  have hA : Rm (d + 1 + 1) A := hA
  refine' enter_ (n := (d + 1)) (led := []) ["block"] ["found", "order", "inner"] [("_law_flat", .ref 301), ("len", .builtin "len")] hA O Led.nil ?ho ?hcd ?hc ?hg ?hlen ?hbind ?_
  case ho => k_is
  case hcd => k_is
  case hc => decide +kernel
  case hg => exact (List.forall_mem_cons.mpr ⟨gl_flat w, (List.forall_mem_cons.mpr ⟨gl_len w, (fun _ h => nomatch h)⟩)⟩)
  case hlen => rfl
  case hbind => exact BindsTo.of_eq rfl
  intro env s' q1 q2 F G hA'
  simp only [l0, List.zip, List.zipWith, List.map, List.nil_append, List.cons_append] at F
  have hh := hA'.hd
  repeat k_all
  rename Fm _ _ _ _ _ _ _ _ _ => F; refine nl_ F ?_ (Nat.le_of_ble_eq_true rfl); clear F; intro fa s_fa F hn_fa
  repeat k_all
  refine For_ ?_
  repeat k_all
  rename Fm _ _ _ _ _ _ _ _ _ => F
  refine iterL_ F (F.listR hbl) ?_
  clear F; intro it o s5 ho hn_it F
  refine forL_all (τ := FlT) (fun c => c.R) (fun c => [("block", some (.ref bl)), ("found", some (.ref c.fa)), ("order", c.v1), ("inner", c.v2)]) (fun c v => [("block", some (.ref bl)), ("found", some (.ref c.fa)), ("order", some v), ("inner", c.v2)])
    (fun c => [(c.fa, listOf c.vs.toArray c.n)]) (fun i c => Le R c.R ∧ FOsR c.R c.vs (flatB (b.take i)) ∧ s.heap.get? c.fa = none)
    hh hn_it (fun c v => .tail (.tail .head)) (fun i c hp => hp.1 _ _ hbl) ?turn ?done _ _ ⟨R, fa, [], 0, none, none⟩ _ _ (Nat.zero_add _) ⟨.refl, .nil, hn_fa⟩ ho F
  case done =>
    clear F
    intro c s6 hc F
    obtain ⟨c1, c2, c3⟩ := hc
    rw [List.size_toArray, hB.length, List.take_length] at c2
    repeat k_all
    rename Fm _ _ _ _ _ _ _ _ _ => F
    have hR_fa := F.lgr.no _ (.head _)
    have F := F.freeze c3
    exact h _ _ _ _ _ F.post (c1.trans (Le.put hR_fa)) Imm.put_self (c2.mono (Le.put hR_fa))
  case turn =>
    clear F
    intro i v c s6 o6 hv hc F
    obtain ⟨R1, f1, vs1, n1, v1, v2⟩ := c
    obtain ⟨le1, c2, c3⟩ := hc
    obtain ⟨od, hod, hov⟩ := (hB.mono le1).get (by simpa using hv)
    have hlen := flatB_le hod
    have hstep := flatB_step hod
    have hdo := depB_get hdep hod
    have hl1 := c2.length
    dsimp only at F c2 c3 le1 hl1
    cases hov with
    | @not oa bl2 t2 k2 bvs2 kk2 b2 h1 h2 h3 =>
      cases d with
      | zero => exact hdo.elim
      | succ d =>
      repeat k_all
      rename Fm _ _ _ _ _ _ _ _ _ => F; refine itemT_ (its := [_, _]) (F.tupR h1) (by decide) rfl (Nat.le_of_ble_eq_true rfl) ?_
      repeat k_all
      rename Fm _ _ _ _ _ _ _ _ _ => F; refine itemT_ (its := [_, _]) (F.tupR h1) (by decide) rfl (Nat.le_of_ble_eq_true rfl) ?_
      repeat k_all
      rename Fm _ _ _ _ _ _ _ _ _ => F
      have hfo : (flatO (.not b2)).length ≤ 50000 := Nat.le_trans (Nat.le_trans (Nat.le_add_left _ _) hlen) hfl
      have hin : (flatB b2).length ≤ 50000 := by
        rw [flatO] at hfo; simp only [List.length_append] at hfo; omega
      refine ih d (Nat.lt_succ_self d) (hA'.le (by omega)) F.out.ok h2 h3 hdo hin ?_
      intro s7 R7 ci ivs ni P7 le7 hci hiv
      have F7 := F.after0 P7
      simp only [List.append_nil, List.cons_append, List.nil_append] at F7
      clear F
      have hil := hiv.length
      have hlen' : (flatB (b.take i)).length + ((flatB b2).length + 4) ≤ 50000 := by
        rw [flatO] at hlen; simp only [List.length_append, List.length_cons, List.length_nil] at hlen; omega
      repeat k_all
      rename Fm _ _ _ _ _ _ _ _ _ => F; refine lenL_ F (F.listR hci) (by rw [List.size_toArray]; omega) ?_; clear F; intro t8 s8 F
      repeat k_all
      rw [List.size_toArray, show (ivs.length : Int) + 3 = (((flatB b2).length + 3 : Nat) : Int) by omega]
      rename Fm _ _ _ _ _ _ _ _ _ => F; refine ntR_ F ?_ (Nat.le_of_ble_eq_true rfl); clear F; intro g s_g hR_g F hn_g
      repeat k_all
      rename Fm _ _ _ _ _ _ _ _ _ => F; refine nl_ F ?_ (Nat.le_of_ble_eq_true rfl); clear F; intro l1 s_l1 F hn_l1
      repeat k_all
      rename Fm _ _ _ _ _ _ _ _ _ => F; refine addL_ F (F.listAt (.tail _ (.tail _ (.head _)))) (F.listAt (.head _)) (by simp only [List.size_toArray, List.length_append, List.length_cons, List.length_nil]; omega) ?_; clear F; intro d1 s9 F hn_d1
      repeat k_all
      rename Fm _ _ _ _ _ _ _ _ _ => F; refine addL_ F (F.listAt (.head _)) (F.listR (Le.put hR_g _ _ hci)) (by simp only [List.size_toArray, List.length_append, List.length_cons, List.length_nil]; omega) ?_; clear F; intro d2 s10 F hn_d2
      repeat k_all
      rename Fm _ _ _ _ _ _ _ _ _ => F; refine ntR_ F ?_ (Nat.le_of_ble_eq_true rfl); clear F; intro u s_u hR_u F hn_u
      repeat k_all
      rename Fm _ _ _ _ _ _ _ _ _ => F; refine ntR_ F ?_ (Nat.le_of_ble_eq_true rfl); clear F; intro x s_x hR_x F hn_x
      repeat k_all
      rename Fm _ _ _ _ _ _ _ _ _ => F; refine ntR_ F ?_ (Nat.le_of_ble_eq_true rfl); clear F; intro y s_y hR_y F hn_y
      repeat k_all
      rename Fm _ _ _ _ _ _ _ _ _ => F; refine nl_ F ?_ (Nat.le_of_ble_eq_true rfl); clear F; intro l2 s_l2 F hn_l2
      repeat k_all
      rename Fm _ _ _ _ _ _ _ _ _ => F; refine addL_ F (F.listAt (.tail _ (.head _))) (F.listAt (.head _)) (by simp only [List.size_toArray, List.length_append, List.length_cons, List.length_nil]; omega) ?_; clear F; intro d3 s11 F hn_d3
      have F9 := (F.sublist (led' := [(d3, _), (it, o6)]) (.cons₂ _ (.cons _ (.cons _ (.cons _ (.cons _ (.cons₂ _ (.cons _ .slnil)))))))).swap
      clear F
      repeat k_all
      rename Fm _ _ _ _ _ _ _ _ _ => F
      refine turnK_next ⟨_, d3, _, _, _, _⟩ ⟨?p1, ?p2, ?p3⟩ F
      case p1 => exact le1.trans (le7.trans ((Le.put hR_g).trans ((Le.put hR_u).trans ((Le.put hR_x).trans (Le.put hR_y)))))
      case p3 => exact hn_d3
      case p2 =>
        show FOsR _ (((vs1 ++ [Value.ref g]) ++ ivs) ++ [Value.ref u, Value.ref x, Value.ref y]) _
        rw [hstep, flatO, ← List.append_assoc, ← List.append_assoc]
        exact ((((c2.mono le7).mono ((Le.put hR_g).trans ((Le.put hR_u).trans ((Le.put hR_x).trans (Le.put hR_y))))).app (.cons (.guard ((Le.put hR_y) _ _ ((Le.put hR_x) _ _ ((Le.put hR_u) _ _ Imm.put_self)))) .nil)).app (hiv.mono ((Le.put hR_g).trans ((Le.put hR_u).trans ((Le.put hR_x).trans (Le.put hR_y)))))).app (.cons (.unguard (Le.put hR_y _ _ (Le.put hR_x _ _ Imm.put_self))) (.cons (.fail (Le.put hR_y _ _ Imm.put_self)) (.cons (.sim (o := .push (Str.ofString "")) Imm.put_self (.s (.s .nil))) .nil)))
    | @sim oa ovs ko o h1 h2 =>
      have hw : o.word ≠ Str.ofString "NOT" := by cases o <;> (simp only [Sim.word]; decide)
      have hfo := FOR.sim h1 h2
      obtain ⟨tw, rest, rfl, hol⟩ := LitsAre.word h2
      repeat k_all
      rename Fm _ _ _ _ _ _ _ _ _ => F; refine itemT_ (F.tupR h1) (by decide) rfl (Nat.lt_of_le_of_lt hol (by decide)) ?_
      repeat k_all
      refine if_e (α := Str) (fun q => absurd q hw) fun _ => ?_
      repeat k_all
      rename Fm _ _ _ _ _ _ _ _ _ => F; refine ex_ F ?_ (by with_unfolding_all rfl)
      repeat k_all
      rename Fm _ _ _ _ _ _ _ _ _ => F; refine appL_ F (.tail .head) (by omega) ?_; clear F; intro s12 F
      repeat k_all
      rename Fm _ _ _ _ _ _ _ _ _ => F
      exact turnK_next ⟨R1, f1, _, _, _, _⟩ ⟨le1, by rw [hstep]; exact c2.app (.cons hfo .nil), c3⟩ F
end

-- LL
/-- an order drawn at a height -/
structure Drawn (R : Imm) (v : Value) (o : Sim) (h : Nat) : Prop where
  rel : OrdR R v (.sim o)
  ok : o.ok = true
  need : o.need ≤ h
theorem get2 {a b : Value} {r : Nat} (h : r < 2) : ∃ v, ([a, b].toArray)[((r : Int)).toNat]? = some v ∧ ((r = 0 ∧ v = a) ∨ (r = 1 ∧ v = b)) := by
  rcases r with _ | _ | r
  · exact ⟨a, rfl, .inl ⟨rfl, rfl⟩⟩
  · exact ⟨b, rfl, .inr ⟨rfl, rfl⟩⟩
  · omega
theorem get3 {a b c : Value} {r : Nat} (h : r < 3) : ∃ v, ([a, b, c].toArray)[((r : Int)).toNat]? = some v ∧ ((r = 0 ∧ v = a) ∨ (r = 1 ∧ v = b) ∨ (r = 2 ∧ v = c)) := by
  rcases r with _ | _ | _ | r
  · exact ⟨a, rfl, .inl ⟨rfl, rfl⟩⟩
  · exact ⟨b, rfl, .inr (.inl ⟨rfl, rfl⟩)⟩
  · exact ⟨c, rfl, .inr (.inr ⟨rfl, rfl⟩)⟩
  · omega
theorem get3s {x y z : Str} {t u v : Tok} {r : Nat} (h : r < 3) (hx : short x = true) (hy : short y = true) (hz : short z = true) : ∃ q w, ([Value.str x t, .str y u, .str z v].toArray)[((r : Int)).toNat]? = some (.str q w) ∧ short q = true := by
  rcases r with _ | _ | _ | r
  · exact ⟨x, t, rfl, hx⟩
  · exact ⟨y, u, rfl, hy⟩
  · exact ⟨z, v, rfl, hz⟩
  · omega
section
variable {prog : Program} {w : World} {s : Shared} {R : Imm} {A : Around} {E : Value → Shared → Prop} {fa c : Addr} {p : Nat} {tp t : Tok} {of : Obj} {cells : Array Value} {nc : Nat} {Q : Value → Shared → Prop}
theorem leaf_ (hA : Rm 3 A) (O : Ok (hd.heap_1 w.params) R s) (hl : Led R [(fa, of)] s) (hf : IsL of #[.ref c, .int p tp]) (hc : FeedC R c cells nc) (hp : p + 2 ≤ 100000)
    (h : ∀ v o p' of' tp' R' s', p' ≤ p + 2 → IsL of' #[.ref c, .int (p' : Int) tp'] → Post (hd.heap_1 w.params) s [fa] R R' [(fa, of')] s' → Le R R' → OrdR R' v (.sim o) → o.ok = true → o.need = 0 → Q v s') :
    wpAny (model prog w) A (call (.ref 280) [.ref fa]) Q E s := by
  refine' enter_ (n := 2) ["feed"] ["form"] [("_law_next", .ref 273)] hA O hl ?ho ?hcd ?hc ?hg ?hlen ?hbind ?_
  case ho => k_is
  case hcd => k_is
  case hc => decide +kernel
  case hg => exact (List.forall_mem_cons.mpr ⟨gl_next w, (fun _ h => nomatch h)⟩)
  case hlen => rfl
  case hbind => exact BindsTo.of_eq rfl
  intro env s' q1 q2 F G hA'
  simp only [l0, List.zip, List.zipWith, List.map, List.nil_append, List.cons_append] at F
  have hh := hA'.hd
  repeat k_all
  rename Fm _ _ _ _ _ _ _ _ _ => F
  refine nextC_ hA' F.out.ok (F.front (l1 := [_])) hf hc (by omega) (n := 7) (by decide) ?_
  intro r t1 of1 tp1 s1 hr hf1 P1
  have F1 := F.after1 P1
  clear F
  simp only [List.append_nil, List.cons_append, List.nil_append] at F1
  repeat k_all
  refine if_d (fun q1 => ?_) fun q1 => ?_
  · repeat k_all
    rename Fm _ _ _ _ _ _ _ _ _ => F; refine nl_ F ?_ (Nat.le_of_ble_eq_true rfl); clear F; intro lz s_lz F hn_lz
    repeat k_all
    rename Fm _ _ _ _ _ _ _ _ _ => F
    have F := F.swap
    refine nextC_ hA' F.out.ok (F.front (l1 := [_])) hf1 hc (by omega) (n := 3) (by decide) ?_
    intro r2 t2 of2 tp2 s2 hr2 hf2 P2
    have F2 := F.after1 P2
    simp only [List.append_nil, List.cons_append, List.nil_append] at F2
    clear F
    obtain ⟨q, tq, hq1, hq2⟩ := get3s (x := Str.ofString "U") (y := Str.ofString "V") (z := Str.ofString "GONE") (t := _) (u := _) (v := _) hr2 (by decide +kernel) (by decide +kernel) (by decide +kernel)
    repeat k_all
    rename Fm _ _ _ _ _ _ _ _ _ => F; refine itemL_ (F.listAt (.tail _ (.head _))) (by omega) (by omega) hq1 ?_
    repeat k_all
    rename Fm _ _ _ _ _ _ _ _ _ => F; refine ntR_ F ?_ (Nat.le_of_ble_eq_true rfl); clear F; intro a s_a hR_a F hn_a
    repeat k_all
    rename Fm _ _ _ _ _ _ _ _ _ => F
    have F9 := F.sublist (led' := [(fa, of2)]) (.cons₂ _ (.cons _ .slnil))
    exact h _ (.var q) (p + 2) of2 tp2 _ _ (Nat.le_refl _) hf2 F9.post (Le.put hR_a) (.sim Imm.put_self (.s (.s .nil))) hq2 rfl
  repeat k_all
  refine if_e (α := Int) (fun q2 => ?_) fun q2 => ?_
  · repeat k_all
    rename Fm _ _ _ _ _ _ _ _ _ => F; refine nl_ F ?_ (Nat.le_of_ble_eq_true rfl); clear F; intro lz s_lz F hn_lz
    repeat k_all
    rename Fm _ _ _ _ _ _ _ _ _ => F
    have F := F.swap
    refine nextC_ hA' F.out.ok (F.front (l1 := [_])) hf1 hc (by omega) (n := 3) (by decide) ?_
    intro r2 t2 of2 tp2 s2 hr2 hf2 P2
    have F2 := F.after1 P2
    simp only [List.append_nil, List.cons_append, List.nil_append] at F2
    clear F
    obtain ⟨q, tq, hq1, hq2⟩ := get3s (x := Str.ofString "") (y := Str.ofString "p") (z := Str.ofString "qq") (t := _) (u := _) (v := _) hr2 (by decide +kernel) (by decide +kernel) (by decide +kernel)
    repeat k_all
    rename Fm _ _ _ _ _ _ _ _ _ => F; refine itemL_ (F.listAt (.tail _ (.head _))) (by omega) (by omega) hq1 ?_
    repeat k_all
    rename Fm _ _ _ _ _ _ _ _ _ => F; refine ntR_ F ?_ (Nat.le_of_ble_eq_true rfl); clear F; intro a s_a hR_a F hn_a
    repeat k_all
    rename Fm _ _ _ _ _ _ _ _ _ => F
    have F9 := F.sublist (led' := [(fa, of2)]) (.cons₂ _ (.cons _ .slnil))
    exact h _ (.push q) (p + 2) of2 tp2 _ _ (Nat.le_refl _) hf2 F9.post (Le.put hR_a) (.sim Imm.put_self (.s (.s .nil))) hq2 rfl
  repeat k_all
  rename Fm _ _ _ _ _ _ _ _ _ => F; refine ntR_ F ?_ (Nat.le_of_ble_eq_true rfl); clear F; intro x s_x hR_x F hn_x
  repeat k_all
  rename Fm _ _ _ _ _ _ _ _ _ => F; refine ntR_ F ?_ (Nat.le_of_ble_eq_true rfl); clear F; intro y s_y hR_y F hn_y
  repeat k_all
  rename Fm _ _ _ _ _ _ _ _ _ => F; refine ntR_ F ?_ (Nat.le_of_ble_eq_true rfl); clear F; intro z s_z hR_z F hn_z
  repeat k_all
  rename Fm _ _ _ _ _ _ _ _ _ => F; refine nl_ F ?_ (Nat.le_of_ble_eq_true rfl); clear F; intro lz s_lz F hn_lz
  repeat k_all
  have hr3 : r - 4 < 3 := by omega
  have e4 : (r : Int) - 4 = ((r - 4 : Nat) : Int) := by omega
  rw [e4]
  obtain ⟨v, hv1, hv2⟩ := get3 (a := .ref x) (b := .ref y) (c := .ref z) hr3
  rename Fm _ _ _ _ _ _ _ _ _ => F; refine itemL_ (F.listAt (.head _)) (by omega) (by omega) hv1 ?_
  repeat k_all
  rename Fm _ _ _ _ _ _ _ _ _ => F
  have F9 := F.drop
  rcases hv2 with ⟨_, rfl⟩ | ⟨_, rfl⟩ | ⟨_, rfl⟩
  · exact h _ (.ref (Str.ofString "W")) (p + 1) of1 tp1 _ _ (by omega) hf1 F9.post ((Le.put hR_x).trans ((Le.put hR_y).trans (Le.put hR_z))) (.sim (Le.put hR_z _ _ (Le.put hR_y _ _ Imm.put_self)) (.s (.s .nil))) (by decide +kernel) rfl
  · exact h _ (.kw (Str.ofString "KEY")) (p + 1) of1 tp1 _ _ (by omega) hf1 F9.post ((Le.put hR_x).trans ((Le.put hR_y).trans (Le.put hR_z))) (.sim (Le.put hR_z _ _ Imm.put_self) (.s (.s .nil))) (by decide +kernel) rfl
  · exact h _ (.del (Str.ofString "d")) (p + 1) of1 tp1 _ _ (by omega) hf1 F9.post ((Le.put hR_x).trans ((Le.put hR_y).trans (Le.put hR_z))) (.sim Imm.put_self (.s (.s .nil))) (by decide +kernel) rfl
set_option maxHeartbeats 1000000 in
theorem deed_ {hg : Nat} (hg0 : 0 < hg) (hg1 : hg ≤ 1000) (hA : Rm 3 A) (O : Ok (hd.heap_1 w.params) R s) (hl : Led R [(fa, of)] s) (hf : IsL of #[.ref c, .int p tp]) (hc : FeedC R c cells nc) (hp : p + 3 ≤ 100000)
    (h : ∀ v o p' of' tp' R' s', p' ≤ p + 3 → IsL of' #[.ref c, .int (p' : Int) tp'] → Post (hd.heap_1 w.params) s [fa] R R' [(fa, of')] s' → Le R R' → OrdR R' v (.sim o) → o.ok = true → o.need ≤ hg → Q v s') :
    wpAny (model prog w) A (call (.ref 287) [.ref fa, .int hg t]) Q E s := by
  refine' enter_ (n := 2) ["feed", "height"] ["form"] [("_law_next", .ref 273)] hA O hl ?ho ?hcd ?hc ?hg ?hlen ?hbind ?_
  case ho => k_is
  case hcd => k_is
  case hc => decide +kernel
  case hg => exact (List.forall_mem_cons.mpr ⟨gl_next w, (fun _ h => nomatch h)⟩)
  case hlen => rfl
  case hbind => exact BindsTo.of_eq rfl
  intro env s' q1 q2 F G hA'
  simp only [l0, List.zip, List.zipWith, List.map, List.nil_append, List.cons_append] at F
  have hh := hA'.hd
  repeat k_all
  rename Fm _ _ _ _ _ _ _ _ _ => F
  refine nextC_ hA' F.out.ok (F.front (l1 := [_])) hf hc (by omega) (n := 9) (by decide) ?_
  intro r t1 of1 tp1 s1 hr hf1 P1
  have F1 := F.after1 P1
  clear F
  simp only [List.append_nil, List.cons_append, List.nil_append] at F1
  repeat k_all
  refine if_d (fun q1 => ?_) fun q1 => ?_
  · repeat k_all
    rename Fm _ _ _ _ _ _ _ _ _ => F; refine ntR_ F ?_ (Nat.le_of_ble_eq_true rfl); clear F; intro x s_x hR_x F hn_x
    repeat k_all
    rename Fm _ _ _ _ _ _ _ _ _ => F; refine ntR_ F ?_ (Nat.le_of_ble_eq_true rfl); clear F; intro y s_y hR_y F hn_y
    repeat k_all
    rename Fm _ _ _ _ _ _ _ _ _ => F; refine nl_ F ?_ (Nat.le_of_ble_eq_true rfl); clear F; intro lz s_lz F hn_lz
    repeat k_all
    have hr3 : r < 2 := by omega
    obtain ⟨v, hv1, hv2⟩ := get2 (a := .ref x) (b := .ref y) hr3
    rename Fm _ _ _ _ _ _ _ _ _ => F; refine itemL_ (F.listAt (.head _)) (by omega) (by omega) hv1 ?_
    repeat k_all
    rename Fm _ _ _ _ _ _ _ _ _ => F
    have F9 := F.drop
    rcases hv2 with ⟨_, rfl⟩ | ⟨_, rfl⟩
    · exact h _ (.un (Str.ofString "+")) (p + 1) of1 tp1 _ _ (by omega) hf1 F9.post ((Le.put hR_x).trans (Le.put hR_y)) (.sim (Le.put hR_y _ _ Imm.put_self) (.s (.s .nil))) (by decide +kernel) hg0
    · exact h _ .value (p + 1) of1 tp1 _ _ (by omega) hf1 F9.post ((Le.put hR_x).trans (Le.put hR_y)) (.sim Imm.put_self (.s .nil)) rfl hg0
  repeat k_all
  refine if_e (α := Int) (fun q2 => ?_) fun q2 => ?_
  · repeat k_all
    rename Fm _ _ _ _ _ _ _ _ _ => F; refine ntR_ F ?_ (Nat.le_of_ble_eq_true rfl); clear F; intro x s_x hR_x F hn_x
    repeat k_all
    rename Fm _ _ _ _ _ _ _ _ _ => F
    exact h _ .indirect (p + 1) of1 tp1 _ _ (by omega) hf1 F.post (Le.put hR_x) (.sim Imm.put_self (.s .nil)) rfl hg0
  repeat k_all
  refine if_e (α := Int) (fun q3 => ?_) fun q3 => ?_
  · repeat k_all
    rename Fm _ _ _ _ _ _ _ _ _ => F; refine ntR_ F ?_ (Nat.le_of_ble_eq_true rfl); clear F; intro x s_x hR_x F hn_x
    repeat k_all
    rename Fm _ _ _ _ _ _ _ _ _ => F
    exact h _ .cursor (p + 1) of1 tp1 _ _ (by omega) hf1 F.post (Le.put hR_x) (.sim Imm.put_self (.s .nil)) rfl hg0
  repeat k_all
  refine if_e (α := Int) (fun q4 => ?_) fun q4 => ?_
  · repeat k_all
    rename Fm _ _ _ _ _ _ _ _ _ => F
    refine nextC_ hA' F.out.ok (F.front (l1 := [_])) hf1 hc (by omega) hg0 ?_
    intro r2 t2 of2 tp2 s2 hr2 hf2 P2
    have F2 := F.after1 P2
    simp only [List.append_nil, List.cons_append, List.nil_append] at F2
    clear F
    repeat k_all
    rename Fm _ _ _ _ _ _ _ _ _ => F
    refine nextC_ hA' F.out.ok (F.front (l1 := [_])) hf2 hc (by omega) (n := 2) (by decide) ?_
    intro r3 t3 of3 tp3 s3 hr3 hf3 P3
    have F3 := F.after1 P3
    simp only [List.append_nil, List.cons_append, List.nil_append] at F3
    clear F
    repeat k_all
    rw [show (1 : Int) + (r2 : Int) = ((1 + r2 : Nat) : Int) by omega]
    rename Fm _ _ _ _ _ _ _ _ _ => F; refine ntR_ F ?_ (Nat.le_of_ble_eq_true rfl); clear F; intro a s_a hR_a F hn_a
    repeat k_all
    rename Fm _ _ _ _ _ _ _ _ _ => F
    exact h _ (.call (Str.ofString "F") (1 + r2) _) (p + 3) of3 tp3 _ _ (by omega) hf3 F.post (Le.put hR_a) (.sim Imm.put_self (.s (.s (.i (.b .nil))))) (by simp only [Sim.ok, Bool.and_eq_true, decide_eq_true_eq]; exact ⟨by decide +kernel, by omega⟩) (by show 1 + r2 ≤ hg; omega)
  repeat k_all
  refine if_d (fun q5 => ?_) fun q5 => ?_
  · repeat k_all
    rename Fm _ _ _ _ _ _ _ _ _ => F; refine ntR_ F ?_ (Nat.le_of_ble_eq_true rfl); clear F; intro x s_x hR_x F hn_x
    repeat k_all
    rename Fm _ _ _ _ _ _ _ _ _ => F
    exact h _ .double (p + 1) of1 tp1 _ _ (by omega) hf1 F.post (Le.put hR_x) (.sim Imm.put_self (.s .nil)) rfl hg0
  repeat k_all
  refine if_e (α := Int) (fun q6 => ?_) fun q6 => ?_
  · repeat k_all
    rw [show (hg : Int) - 1 = ((hg - 1 : Nat) : Int) by omega]
    rename Fm _ _ _ _ _ _ _ _ _ => F
    refine nextC_ hA' F.out.ok (F.front (l1 := [_])) hf1 hc (by omega) (by omega) ?_
    intro r2 t2 of2 tp2 s2 hr2 hf2 P2
    have F2 := F.after1 P2
    simp only [List.append_nil, List.cons_append, List.nil_append] at F2
    clear F
    repeat k_all
    rename Fm _ _ _ _ _ _ _ _ _ => F
    refine nextC_ hA' F.out.ok (F.front (l1 := [_])) hf2 hc (by omega) (n := 2) (by decide) ?_
    intro r3 t3 of3 tp3 s3 hr3 hf3 P3
    have F3 := F.after1 P3
    simp only [List.append_nil, List.cons_append, List.nil_append] at F3
    clear F
    repeat k_all
    rw [show (1 : Int) + (r2 : Int) = ((1 + r2 : Nat) : Int) by omega]
    rename Fm _ _ _ _ _ _ _ _ _ => F; refine ntR_ F ?_ (Nat.le_of_ble_eq_true rfl); clear F; intro a s_a hR_a F hn_a
    repeat k_all
    rename Fm _ _ _ _ _ _ _ _ _ => F
    exact h _ (.item (1 + r2) _) (p + 3) of3 tp3 _ _ (by omega) hf3 F.post (Le.put hR_a) (.sim Imm.put_self (.s (.i (.b .nil)))) (by simp only [Sim.ok, decide_eq_true_eq]; omega) (by show 1 + r2 + 1 ≤ hg; omega)
  repeat k_all
  rename Fm _ _ _ _ _ _ _ _ _ => F; refine ntR_ F ?_ (Nat.le_of_ble_eq_true rfl); clear F; intro x s_x hR_x F hn_x
  repeat k_all
  rename Fm _ _ _ _ _ _ _ _ _ => F; refine ntR_ F ?_ (Nat.le_of_ble_eq_true rfl); clear F; intro y s_y hR_y F hn_y
  repeat k_all
  rename Fm _ _ _ _ _ _ _ _ _ => F; refine ntR_ F ?_ (Nat.le_of_ble_eq_true rfl); clear F; intro z s_z hR_z F hn_z
  repeat k_all
  rename Fm _ _ _ _ _ _ _ _ _ => F; refine nl_ F ?_ (Nat.le_of_ble_eq_true rfl); clear F; intro lz s_lz F hn_lz
  repeat k_all
  have hr3 : r - 6 < 3 := by omega
  have e4 : (r : Int) - 6 = ((r - 6 : Nat) : Int) := by omega
  rw [e4]
  obtain ⟨v, hv1, hv2⟩ := get3 (a := .ref x) (b := .ref y) (c := .ref z) hr3
  rename Fm _ _ _ _ _ _ _ _ _ => F; refine itemL_ (F.listAt (.head _)) (by omega) (by omega) hv1 ?_
  repeat k_all
  rename Fm _ _ _ _ _ _ _ _ _ => F
  have F9 := F.drop
  rcases hv2 with ⟨_, rfl⟩ | ⟨_, rfl⟩ | ⟨_, rfl⟩
  · exact h _ (.bin (Str.ofString "*")) (p + 1) of1 tp1 _ _ (by omega) hf1 F9.post ((Le.put hR_x).trans ((Le.put hR_y).trans (Le.put hR_z))) (.sim (Le.put hR_z _ _ (Le.put hR_y _ _ Imm.put_self)) (.s (.s .nil))) (by decide +kernel) (by show 2 ≤ hg; omega)
  · exact h _ .join (p + 1) of1 tp1 _ _ (by omega) hf1 F9.post ((Le.put hR_x).trans ((Le.put hR_y).trans (Le.put hR_z))) (.sim (Le.put hR_z _ _ Imm.put_self) (.s .nil)) rfl (by show 2 ≤ hg; omega)
  · exact h _ (.given (Str.ofString "$")) (p + 1) of1 tp1 _ _ (by omega) hf1 F9.post ((Le.put hR_x).trans ((Le.put hR_y).trans (Le.put hR_z))) (.sim Imm.put_self (.s (.s .nil))) (by decide +kernel) (by show 2 ≤ hg; omega)
end

-- LBk
noncomputable def bud : Nat → Nat
  | 0 => 1 + 5 * 5
  | d + 1 => 1 + 5 * (6 + bud d)
noncomputable def tc : Nat → Nat
  | 0 => 5
  | d + 1 => 6 + bud d
theorem bud_eq (d : Nat) : bud d = 1 + 5 * tc d := by cases d <;> rfl
theorem tc_ge (d : Nat) : 5 ≤ tc d := by cases d <;> simp only [tc] <;> omega
noncomputable def Sim.un2 : Sim → Int
  | .call _ _ _ => 1
  | .item _ _ => 2
  | _ => 0
noncomputable abbrev dict3 : List (PyData × PyData) := [(.str "CALL", .int 1), (.str "ITEM", .int 2)]
theorem dict3_nd : (strKeysOf dict3).Nodup := by decide +kernel
theorem dict3_k : strKeyed dict3 = true := by decide +kernel
theorem dict3_get (o : Sim) : (Spec.lookup (.str o.word) dict3).getD (.int 0) = .int o.un2 := by cases o <;> rfl
theorem okB_snoc (d : Nat) (os : List Ord) (o : Ord) (h : Nat) : okB d (os ++ [o]) h = (okB d os h).bind fun h' => okO d o h' := by
  induction os generalizing h with
  | nil => simp only [List.nil_append, okB, Option.bind_some]; cases okO d o h <;> rfl
  | cons a r ih =>
    rw [List.cons_append, okB, okB]
    cases okO d a h with
    | none => rfl
    | some h' => simp only [Option.bind_some]; exact ih h'
theorem many_need {o : Sim} : o.many ≤ o.need := by cases o <;> first | exact Nat.le_refl _ | exact Nat.zero_le _
theorem word_up {o : Sim} (h : [Str.ofString "VAR", Str.ofString "PUSH", Str.ofString "REF", Str.ofString "KEYWORD", Str.ofString "DELAYED", Str.ofString "DOUBLE"].any (· == o.word) = true) : o.many = 0 := by
  cases o <;> first | rfl | (exfalso; revert h; simp only [Sim.word]; decide)
theorem word_down {o : Sim} (h : [Str.ofString "BINARY", Str.ofString "JOIN", Str.ofString "GIVEN"].any (· == o.word) = true) : o.many = 2 := by
  cases o <;> first | rfl | (exfalso; revert h; simp only [Sim.word]; decide)
theorem word_else {o : Sim} (h1 : [Str.ofString "VAR", Str.ofString "PUSH", Str.ofString "REF", Str.ofString "KEYWORD", Str.ofString "DELAYED", Str.ofString "DOUBLE"].any (· == o.word) = false)
    (h2 : [Str.ofString "BINARY", Str.ofString "JOIN", Str.ofString "GIVEN"].any (· == o.word) = false) (h3 : ¬ 0 < o.un2) : o.many = 1 := by
  cases o <;> first | rfl | exact absurd (show (0:Int) < 1 by decide) h3 | exact absurd (show (0:Int) < 2 by decide) h3 | (exfalso; revert h1; simp only [Sim.word]; decide) | (exfalso; revert h2; simp only [Sim.word]; decide)
theorem un2_pos {o : Sim} (h : 0 < o.un2) : o.word = Str.ofString "CALL" ∨ o.word = Str.ofString "ITEM" := by
  cases o <;> first | exact .inl rfl | exact .inr rfl | exact absurd h (Int.lt_irrefl _)
structure BkT where
  R : Imm
  of : Obj
  p : Nat
  tp : Tok
  vs : List Value
  n : Nat
  os : List Ord
  ht : Nat
  th : Tok
  v1 : Option Value
  v2 : Option Value
  v3 : Option Value
  v4 : Option Value
structure OrT where
  R : Imm
  v : Value
  o : Sim
  of : Obj
  p : Nat
  tp : Tok
noncomputable def bkL (fa fo : Addr) (h : Value) (dv : Value) (v1 v2 v3 v4 : Option Value) : List (Str × Option Value) :=
  [("feed", some (.ref fa)), ("height", some h), ("deep", some dv), ("found", some (.ref fo)), ("turn", v1), ("order", v2), ("under", v3), ("size", v4)]
section
variable {prog : Program} {w : World}
set_option maxHeartbeats 2000000 in
theorem block_ (d : Nat) : ∀ {A : Around} {E : Value → Shared → Prop} {s : Shared} {R : Imm} {fa c : Addr} {p : Nat} {tp t0 td : Tok} {of : Obj} {cells : Array Value} {nc : Nat} {Q : Value → Shared → Prop},
    Rm (d + 4) A → Ok (hd.heap_1 w.params) R s → Led R [(fa, of)] s → IsL of #[.ref c, .int p tp] → FeedC R c cells nc → p + bud d ≤ 100000 →
    (∀ b cl vs n os (hgt : Nat) th k (p' : Nat) of' tp' R' s', p' ≤ p + bud d → IsL of' #[.ref c, .int (p' : Int) tp'] → Post (hd.heap_1 w.params) s [fa] R R' [(fa, of')] s' → Le R R' → R' b = some (tupOf #[.ref cl, .int (hgt : Int) th] k) →
      R' cl = some (listOf vs.toArray n) → OrdsR R' vs os → okB d os 0 = some hgt → os.length ≤ 5 → Q (.ref b) s') →
    wpAny (model prog w) A (call (.ref 294) [.ref fa, .int 0 t0, .int d td]) Q E s := by
  induction d using Nat.strongRecOn with
  | ind d ih =>
  intro A E s R fa c p tp t0 td of cells nc Q hA O hl hf hc hp h
  have hA : Rm (d + 3 + 1) A := hA
  have hbud := bud_eq d
  have htc := tc_ge d
  refine' enter_ (n := (d + 3)) ["feed", "height", "deep"] ["found", "turn", "order", "under", "size"] [("_law_next", .ref 273), ("_law_leaf", .ref 280), ("_law_deed", .ref 287), ("_law_block", .ref 294), ("range", .type "range")] hA O hl ?ho ?hcd ?hc ?hg ?hlen ?hbind ?_
  case ho => k_is
  case hcd => k_is
  case hc => decide +kernel
  case hg => exact (List.forall_mem_cons.mpr ⟨gl_next w, (List.forall_mem_cons.mpr ⟨gl_leaf w, (List.forall_mem_cons.mpr ⟨gl_deed w, (List.forall_mem_cons.mpr ⟨gl_block w, (List.forall_mem_cons.mpr ⟨gl_range w, (fun _ h => nomatch h)⟩)⟩)⟩)⟩)⟩)
  case hlen => rfl
  case hbind => exact BindsTo.of_eq rfl
  intro env s' q1 q2 F G hA'
  simp only [l0, List.zip, List.zipWith, List.map, List.nil_append, List.cons_append] at F
  have hh := hA'.hd
  repeat k_all
  rename Fm _ _ _ _ _ _ _ _ _ => F; refine nl_ F ?_ (Nat.le_of_ble_eq_true rfl); clear F; intro fo s_fo F hn_fo
  repeat k_all
  refine For_ ?_
  repeat k_all
  rename Fm _ _ _ _ _ _ _ _ _ => F
  have F := F.swap
  refine nextC_ (hA'.le (by omega)) F.out.ok (F.front (l1 := [_])) hf hc (by omega) (n := 4) (by decide) ?_
  intro r t1 of1 tp1 s1 hr hf1 P1
  have F1 := F.after1 P1
  simp only [List.append_nil, List.cons_append, List.nil_append] at F1
  clear F
  repeat k_all
  rw [show (2 : Int) + (r : Int) = ((2 + r : Nat) : Int) by omega]
  rename Fm _ _ _ _ _ _ _ _ _ => F; refine range_ (t := 0) F ?_; clear F; intro ra t19 t20 s19 F hn_ra
  rename Fm _ _ _ _ _ _ _ _ _ => F
  refine iterR_ F (by omega) ?_
  clear F; intro it s20 hn_it F
  refine forR_all (τ := BkT) (fun c => c.R) (fun c => bkL fa fo (.int (c.ht : Int) c.th) (.int d td) c.v1 c.v2 c.v3 c.v4) (fun c v => bkL fa fo (.int (c.ht : Int) c.th) (.int d td) (some v) c.v2 c.v3 c.v4)
    (fun c => [(fa, c.of), (fo, listOf c.vs.toArray c.n)]) (fun i y => Le R y.R ∧ y.p ≤ p + 1 + i * tc d ∧ IsL y.of #[.ref c, .int (y.p : Int) y.tp] ∧ OrdsR y.R y.vs y.os ∧ okB d y.os 0 = some y.ht ∧ y.os.length = i ∧ y.ht ≤ i)
    hh hn_it (fun c v => .tail (.tail (.tail (.tail .head)))) ?turn ?done _ _ ⟨R, of1, p + 1, tp1, [], 0, [], 0, t0, none, none, none, none⟩ _ (Nat.zero_add _) ⟨.refl, by simp, hf1, .nil, rfl, rfl, Nat.le_refl _⟩ F
  case done =>
    clear F
    intro y s21 hy F
    obtain ⟨R1, of2, p2, tp2, vs, n, os, ht, th, v1, v2, v3, v4⟩ := y
    obtain ⟨le1, y1, y2, y3, y4, y5, y6⟩ := hy
    dsimp only at F le1 y1 y2 y3 y4 y5 y6
    have hi : (2 + r) * tc d ≤ 5 * tc d := Nat.mul_le_mul_right _ (by omega)
    unfold bkL at F
    repeat k_all
    rename Fm _ _ _ _ _ _ _ _ _ => F
    have F := F.swap
    have hR_fo := F.lgr.no _ (.head _)
    have F := F.freeze hn_fo
    rename Fm _ _ _ _ _ _ _ _ _ => F; refine ntR_ F ?_ (Nat.le_of_ble_eq_true rfl); clear F; intro b s_b hR_b F hn_b
    repeat k_all
    rename Fm _ _ _ _ _ _ _ _ _ => F
    exact h _ _ _ _ _ _ _ _ _ _ _ _ _ (by omega) y2 F.post (le1.trans ((Le.put hR_fo).trans (Le.put hR_b))) Imm.put_self (Le.put hR_b _ _ Imm.put_self) (y3.mono ((Le.put hR_fo).trans (Le.put hR_b))) y4 (by omega)
  case turn =>
    clear F
    intro i tj y s21 o21 hj hy F
    obtain ⟨R1, of2, p2, tp2, vs, n, os, ht, th, v1, v2, v3, v4⟩ := y
    obtain ⟨le1, y1, y2, y3, y4, y5, y6⟩ := hy
    dsimp only at F le1 y1 y2 y3 y4 y5 y6
    have hi : (i + 1) * tc d = i * tc d + tc d := Nat.succ_mul _ _
    have hi2 : i * tc d + tc d ≤ 5 * tc d := by rw [← hi]; exact Nat.mul_le_mul_right _ (by omega)
    have hvl := y3.length
    have hc1 := hc.mono le1
    unfold bkL at F
    refine seq_ ?_
    k_fold
    refine wpAny_If ?_
    refine cut_ (P := fun b s' => ∃ of3 p3 tp3, p3 ≤ p2 + 1 ∧ IsL of3 #[.ref c, .int ((p3 : Nat) : Int) tp3] ∧ (b = true → 0 < d) ∧ Fm (hd.heap_1 w.params) env s [fa] R R1 (bkL fa fo (.int (ht : Int) th) (.int d td) (some (.int i tj)) v2 v3 v4) [(it, o21), (fa, of3), (fo, listOf vs.toArray n)] s') ?tst ?br
    case tst =>
      repeat k_all
      refine if_d (fun q => ?_) fun q => ?_
      · repeat k_all
        rename Fm _ _ _ _ _ _ _ _ _ => F
        have F := F.swap
        refine nextC_ (hA'.le (by omega)) F.out.ok (F.front (l1 := [_])) y2 hc1 (by omega) (n := 5) (by decide) ?_
        intro r4 t4 of4 tp4 s4 hr4 hf4 P4
        have F4 := F.after1 P4
        simp only [List.append_nil, List.cons_append, List.nil_append] at F4
        have F4 := F4.swap
        clear F
        repeat k_all
        refine if_e (α := Int) (fun _ => ?_) fun _ => ?_
        · repeat k_all
          rename Fm _ _ _ _ _ _ _ _ _ => F
          exact ⟨of4, p2 + 1, tp4, Nat.le_refl _, hf4, fun _ => by omega, F⟩
        · rename Fm _ _ _ _ _ _ _ _ _ => F
          exact ⟨of4, p2 + 1, tp4, Nat.le_refl _, hf4, fun _ => by omega, F⟩
      · rename Fm _ _ _ _ _ _ _ _ _ => F
        exact ⟨of2, p2, tp2, by omega, y2, (fun q => by cases q), F⟩
    case br =>
      clear F
      intro b s22 hb
      obtain ⟨of3, p3, tp3, z1, z2, z3, F⟩ := hb
      unfold bkL at F
      refine if_c (fun e => ?_) fun e => ?_
      · cases d with
        | zero => exact absurd (z3 e) (Nat.lt_irrefl _)
        | succ d =>
        have htc2 : tc (d + 1) = 6 + bud d := rfl
        repeat k_all
        rename Fm _ _ _ _ _ _ _ _ _ => F; refine ex_ F ?_ (by with_unfolding_all rfl)
        repeat k_all
        rw [show ((d + 1 : Nat) : Int) - 1 = (d : Int) by omega]
        rename Fm _ _ _ _ _ _ _ _ _ => F
        have F := F.swap
        refine ih d (Nat.lt_succ_self d) (hA'.le (by omega)) F.out.ok (F.front (l1 := [_])) z2 hc1 (by omega) ?_
        intro b2 cl vs2 n2 os2 hgt2 th2 k2 p4 of4 tp4 R4 s4 hp4 hf4 P4 le4 hb2 hcl hos2 hok2 hlen2
        have F4 := F.after1 P4
        simp only [List.append_nil, List.cons_append, List.nil_append] at F4
        have F4 := F4.swap
        clear F
        repeat k_all
        rename Fm _ _ _ _ _ _ _ _ _ => F; refine itemT_ (its := [_, _]) (F.tupR hb2) (by decide) rfl (Nat.le_of_ble_eq_true rfl) ?_
        repeat k_all
        rename Fm _ _ _ _ _ _ _ _ _ => F; refine ntR_ F ?_ (Nat.le_of_ble_eq_true rfl); clear F; intro a s_a hR_a F hn_a
        repeat k_all
        rename Fm _ _ _ _ _ _ _ _ _ => F; refine appL_ F (.tail (.tail .head)) (by omega) ?_; clear F; intro s12 F
        repeat k_all
        rename Fm _ _ _ _ _ _ _ _ _ => F
        rw [show ((ht : Nat) : Int) + 1 = ((ht + 1 : Nat) : Int) by omega] at F
        refine turnK_next ⟨_, of4, p4, tp4, _, _, os ++ [.not os2], ht + 1, _, _, _, _, _⟩ ⟨le1.trans (le4.trans (Le.put hR_a)), (by show p4 ≤ _; omega), hf4, ?_, ?_, ?_, ?_⟩ F
        · exact (y3.mono (le4.trans (Le.put hR_a))).snoc (.not Imm.put_self (Le.put hR_a _ _ hcl) (hos2.mono (Le.put hR_a)))
        · rw [okB_snoc, y4, Option.bind_some, okO, if_pos hlen2, hok2]; rfl
        · rw [List.length_append, y5]; rfl
        · show ht + 1 ≤ i + 1; omega
      · refine seq_ ?_
        k_fold
        refine cutX_ (K := (hd.heap_1 w.params)) (env := env) (se := s) (S := [fa]) (R₀ := R) (X := OrT) Flow.next (fun y => y.R) (fun y => bkL fa fo (.int (ht : Int) th) (.int d td) (some (.int i tj)) (some y.v) v3 v4) (fun y => [(it, o21), (fa, y.of), (fo, listOf vs.toArray n)])
          (fun y => Le R1 y.R ∧ y.p ≤ p2 + 5 ∧ IsL y.of #[.ref c, .int ((y.p : Nat) : Int) y.tp] ∧ OrdR y.R y.v (.sim y.o) ∧ y.o.ok = true ∧ y.o.need ≤ ht) ?a1 ?a2
        case a1 =>
          repeat k_all
          refine if_e (α := Int) (fun q => ?_) fun q => ?_
          · repeat k_all
            rename Fm _ _ _ _ _ _ _ _ _ => F
            have F := F.swap
            refine leaf_ (hA'.le (by omega)) F.out.ok (F.front (l1 := [_])) z2 hc1 (by omega) ?_
            intro v o p5 of5 tp5 R5 s5 hp5 hf5 P5 le5 hor hok hneed
            have F5 := F.after1 P5
            simp only [List.append_nil, List.cons_append, List.nil_append] at F5
            have F5 := F5.swap
            clear F
            repeat k_all
            rename Fm _ _ _ _ _ _ _ _ _ => F
            exact ⟨rfl, ⟨R5, v, o, of5, p5, tp5⟩, ⟨le5, by show p5 ≤ _; omega, hf5, hor, hok, by rw [hneed]; exact Nat.zero_le _⟩, F⟩
          · repeat k_all
            rename Fm _ _ _ _ _ _ _ _ _ => F
            have F := F.swap
            refine nextC_ (hA'.le (by omega)) F.out.ok (F.front (l1 := [_])) z2 hc1 (by omega) (n := 2) (by decide) ?_
            intro r4 t4 of4 tp4 s4 hr4 hf4 P4
            have F4 := F.after1 P4
            simp only [List.append_nil, List.cons_append, List.nil_append] at F4
            have F4 := F4.swap
            clear F
            repeat k_all
            refine if_e (α := Int) (fun q' => ?_) fun q' => ?_
            · repeat k_all
              rename Fm _ _ _ _ _ _ _ _ _ => F
              have F := F.swap
              refine leaf_ (hA'.le (by omega)) F.out.ok (F.front (l1 := [_])) hf4 hc1 (by omega) ?_
              intro v o p5 of5 tp5 R5 s5 hp5 hf5 P5 le5 hor hok hneed
              have F5 := F.after1 P5
              simp only [List.append_nil, List.cons_append, List.nil_append] at F5
              have F5 := F5.swap
              clear F
              repeat k_all
              rename Fm _ _ _ _ _ _ _ _ _ => F
              exact ⟨rfl, ⟨R5, v, o, of5, p5, tp5⟩, ⟨le5, by show p5 ≤ _; omega, hf5, hor, hok, by rw [hneed]; exact Nat.zero_le _⟩, F⟩
            · repeat k_all
              rename Fm _ _ _ _ _ _ _ _ _ => F
              have F := F.swap
              refine deed_ (hg := ht) (by omega) (by omega) (hA'.le (by omega)) F.out.ok (F.front (l1 := [_])) hf4 hc1 (by omega) ?_
              intro v o p5 of5 tp5 R5 s5 hp5 hf5 P5 le5 hor hok hneed
              have F5 := F.after1 P5
              simp only [List.append_nil, List.cons_append, List.nil_append] at F5
              have F5 := F5.swap
              clear F
              repeat k_all
              rename Fm _ _ _ _ _ _ _ _ _ => F
              exact ⟨rfl, ⟨R5, v, o, of5, p5, tp5⟩, ⟨le5, by show p5 ≤ _; omega, hf5, hor, hok, hneed⟩, F⟩
        case a2 =>
          clear F
          intro y s23 hy F
          obtain ⟨R4, ov, o, of4, p4, tp4⟩ := y
          obtain ⟨le4, w1, w2, w3, w4, w5⟩ := hy
          dsimp only at F le4 w1 w2 w3 w4 w5
          have w3' := w3
          cases w3 with
          | @sim oa ovs ko _ h1 h2 =>
          obtain ⟨tw, rest, rfl, hol⟩ := LitsAre.word h2
          have hmn := many_need (o := o)
          unfold bkL at F
          refine thenK_next ?_
          repeat k_all
          rename Fm _ _ _ _ _ _ _ _ _ => F; refine ex_ F ?_ (by with_unfolding_all rfl)
          repeat k_all
          rename Fm _ _ _ _ _ _ _ _ _ => F; refine appL_ F (.tail (.tail .head)) (by omega) ?_; clear F; intro s24 F
          repeat k_all
          rename Fm _ _ _ _ _ _ _ _ _ => F
          with_reducible refine' dl_ (D := dict3) F ?da dict3_k dict3_nd ?db ?dc ?dd ?de ?_
          case da => with_unfolding_all rfl
          case db => rfl
          case dc => rfl
          case dd => exact List.cons_ne_nil _ _
          case de => exact Nat.le_of_ble_eq_true rfl
          clear F; intro da2 do2_ s33 hta2 hda2 F hn_da2
          repeat k_all
          rename Fm _ _ _ _ _ _ _ _ _ => F; refine dgm_ F hta2 hda2 .head ?_
          repeat k_all
          rename Fm _ _ _ _ _ _ _ _ _ => F; refine itemT_ (F.tupR h1) (by decide) rfl (Nat.lt_of_le_of_lt hol (by decide)) ?_
          repeat k_all
          rename Fm _ _ _ _ _ _ _ _ _ => F
          refine dg2_ F hta2 hda2 .head (dd := .int 0) (fun _ => .int _ _) ?_
          clear F; intro mv2 s34 hmv2 F
          rw [dict3_get] at hmv2
          obtain ⟨tm2, rfl⟩ : ∃ t, mv2 = .int o.un2 t := by
            have q := hmv2 {}
            cases q; exact ⟨_, rfl⟩
          have F9 := F.drop
          clear F
          (rename Fm _ _ _ _ _ _ _ _ _ => F0); (refine' st_ F0 ?m ?_); (case m => kqd_sub); clear F0; intro s35 F
          refine thenK_next ?_
          refine seq_ ?_
          k_fold
          refine cutX_ (K := (hd.heap_1 w.params)) (env := env) (se := s) (S := [fa]) (R₀ := R) (X := Int × Tok) Flow.next (fun _ => R4) (fun y => bkL fa fo (.int (ht : Int) th) (.int d td) (some (.int i tj)) (some (.ref oa)) (some (.int o.un2 tm2)) (some (.int y.1 y.2))) (fun y => [(it, o21), (fa, of4), (fo, listOf (vs ++ [Value.ref oa]).toArray (n + 1))])
            (fun y => 0 < o.un2 → y.1 = o.many) ?b1 ?b2
          case b1 =>
            repeat k_all
            rename Fm _ _ _ _ _ _ _ _ _ => F; refine itemT_ (F.tupR h1) (by decide) rfl (Nat.lt_of_le_of_lt hol (by decide)) ?_
            repeat k_all
            refine if_e (α := Str) (fun q => ?_) fun q1 => ?_
            · obtain ⟨f, m, c', rfl⟩ := word_call q
              rcases h2 with _ | h2
              rcases h2 with _ | h2
              rcases h2 with _ | h2 | h2
              rcases h2 with _ | h2 | h2 | h2
              cases h2
              repeat k_all
              rename Fm _ _ _ _ _ _ _ _ _ => F; refine itemT_ (F.tupR h1) (by decide) rfl (Nat.le_of_ble_eq_true rfl) ?_
              repeat k_all
              rename Fm _ _ _ _ _ _ _ _ _ => F
              exact ⟨rfl, (_, _), fun _ => rfl, F⟩
            · repeat k_all
              rename Fm _ _ _ _ _ _ _ _ _ => F; refine itemT_ (F.tupR h1) (by decide) rfl (Nat.lt_of_le_of_lt hol (by decide)) ?_
              repeat k_all
              refine if_e (α := Str) (fun q => ?_) fun q2 => ?_
              · obtain ⟨m, c', rfl⟩ := word_item q
                rcases h2 with _ | h2
                rcases h2 with _ | h2 | h2
                rcases h2 with _ | h2 | h2 | h2
                cases h2
                repeat k_all
                rename Fm _ _ _ _ _ _ _ _ _ => F; refine itemT_ (F.tupR h1) (by decide) rfl (Nat.le_of_ble_eq_true rfl) ?_
                repeat k_all
                rename Fm _ _ _ _ _ _ _ _ _ => F
                exact ⟨rfl, (_, _), fun _ => (show (m : Int) + 1 = ((m + 1 : Nat) : Int) by omega), F⟩
              · repeat k_all
                rename Fm _ _ _ _ _ _ _ _ _ => F
                exact ⟨rfl, (_, _), fun q => by rcases un2_pos q with q | q; exact absurd q q1; exact absurd q q2, F⟩
          case b2 =>
            clear F
            intro y s36 hy F
            obtain ⟨z, tz⟩ := y
            dsimp only at F hy
            unfold bkL at F
            refine thenK_next ?_
            repeat k_all
            rename Fm _ _ _ _ _ _ _ _ _ => F; refine itemT_ (F.tupR h1) (by decide) rfl (Nat.lt_of_le_of_lt hol (by decide)) ?_
            repeat k_all
            rename Fm _ _ _ _ _ _ _ _ _ => F
            refine nt_ F ?_ (Nat.le_of_ble_eq_true rfl)
            clear F; intro z2 s37 F hn_z2
            repeat k_all
            rename Fm _ _ _ _ _ _ _ _ _ => F
            refine inT_ F .head (by repeat constructor) ?_
            have F9 := F.drop
            clear F
            repeat k_all
            refine if_c (fun q => ?_) fun q4 => ?_
            · repeat k_all
              rename Fm _ _ _ _ _ _ _ _ _ => F
              have e0 := word_up q
              rw [show ((ht : Nat) : Int) + 1 = ((ht - o.many + 1 : Nat) : Int) by omega] at F
              refine turnK_next ⟨R4, of4, p4, tp4, _, _, os ++ [.sim o], ht - o.many + 1, _, _, _, _, _⟩ ⟨le1.trans le4, (by show p4 ≤ _; omega), w2, (y3.mono le4).snoc w3', ?_, ?_, ?_⟩ F
              · rw [okB_snoc, y4, Option.bind_some, okO, if_pos ⟨w4, w5⟩]
              · rw [List.length_append, y5]; rfl
              · show ht - o.many + 1 ≤ i + 1; omega
            repeat k_all
            rename Fm _ _ _ _ _ _ _ _ _ => F; refine itemT_ (F.tupR h1) (by decide) rfl (Nat.lt_of_le_of_lt hol (by decide)) ?_
            repeat k_all
            rename Fm _ _ _ _ _ _ _ _ _ => F
            refine nt_ F ?_ (Nat.le_of_ble_eq_true rfl)
            clear F; intro z2 s37 F hn_z2
            repeat k_all
            rename Fm _ _ _ _ _ _ _ _ _ => F
            refine inT_ F .head (by repeat constructor) ?_
            have F9 := F.drop
            clear F
            repeat k_all
            refine if_c (fun q => ?_) fun q5 => ?_
            · repeat k_all
              rename Fm _ _ _ _ _ _ _ _ _ => F
              have e0 := word_down q
              rw [show ((ht : Nat) : Int) - 1 = ((ht - o.many + 1 : Nat) : Int) by omega] at F
              refine turnK_next ⟨R4, of4, p4, tp4, _, _, os ++ [.sim o], ht - o.many + 1, _, _, _, _, _⟩ ⟨le1.trans le4, (by show p4 ≤ _; omega), w2, (y3.mono le4).snoc w3', ?_, ?_, ?_⟩ F
              · rw [okB_snoc, y4, Option.bind_some, okO, if_pos ⟨w4, w5⟩]
              · rw [List.length_append, y5]; rfl
              · show ht - o.many + 1 ≤ i + 1; omega
            repeat k_all
            refine if_d (fun q => ?_) fun q6 => ?_
            · have e0 := hy q
              subst e0
              repeat k_all
              rename Fm _ _ _ _ _ _ _ _ _ => F
              rw [show ((ht : Nat) : Int) - (o.many : Int) + 1 = ((ht - o.many + 1 : Nat) : Int) by omega] at F
              refine turnK_next ⟨R4, of4, p4, tp4, _, _, os ++ [.sim o], ht - o.many + 1, _, _, _, _, _⟩ ⟨le1.trans le4, (by show p4 ≤ _; omega), w2, (y3.mono le4).snoc w3', ?_, ?_, ?_⟩ F
              · rw [okB_snoc, y4, Option.bind_some, okO, if_pos ⟨w4, w5⟩]
              · rw [List.length_append, y5]; rfl
              · show ht - o.many + 1 ≤ i + 1; omega
            repeat k_all
            rename Fm _ _ _ _ _ _ _ _ _ => F
            have e0 := word_else q4 q5 q6
            rw [show ((ht : Nat) : Int) = ((ht - o.many + 1 : Nat) : Int) by omega] at F
            refine turnK_next ⟨R4, of4, p4, tp4, _, _, os ++ [.sim o], ht - o.many + 1, _, _, _, _, _⟩ ⟨le1.trans le4, (by show p4 ≤ _; omega), w2, (y3.mono le4).snoc w3', ?_, ?_, ?_⟩ F
            · rw [okB_snoc, y4, Option.bind_some, okO, if_pos ⟨w4, w5⟩]
            · rw [List.length_append, y5]; rfl
            · show ht - o.many + 1 ≤ i + 1; omega
end

-- LX
section
variable {prog : Program} {w : World} {K : Frag} {env : Env} {se s s' : Shared} {S S₀ : List Addr} {R₀ R R' : Imm} {l l' : List (Str × Option Value)} {led led' l1 l1' l2 : Ledger} {A : Around} {E : Value → Shared → Prop}

theorem bindL_all {kindOf : Str → Option NameKind} : ∀ {ps : List Str} {vs : List Value} {m : Str → Option Value}, ps.length = vs.length → ps.Nodup → (∀ x ∈ ps, kindOf x = some .local) →
    (∀ x v, (x, some v) ∈ ps.zip (vs.map some) → bindL kindOf (ps.zip vs) m x = some v) ∧ ∀ x, x ∉ ps → bindL kindOf (ps.zip vs) m x = m x
  | [], vs, m, _, _, _ => ⟨fun x v h => by simp at h, fun x _ => by simp [bindL]⟩
  | p :: ps, [], m, hl, _, _ => by simp at hl
  | p :: ps, u :: vs, m, hl, nd, hk => by
    rw [List.nodup_cons] at nd
    have hkp := hk p (.head _)
    obtain ⟨h1, h2⟩ := bindL_all (kindOf := kindOf) (ps := ps) (vs := vs) (m := fun y => if y = p then some u else m y) (by simpa using hl) nd.2 (fun x hx => hk x (.tail _ hx))
    have e : bindL kindOf ((p :: ps).zip (u :: vs)) m = bindL kindOf (ps.zip vs) (fun y => if y = p then some u else m y) := by
      show bindL kindOf ((p, u) :: ps.zip vs) m = _
      simp only [bindL, hkp, if_true]
    rw [e]
    refine ⟨fun x v h => ?_, fun x hx => ?_⟩
    · simp only [List.map_cons, List.zip_cons_cons, List.mem_cons, Prod.mk.injEq, Option.some.injEq] at h
      rcases h with ⟨rfl, rfl⟩ | h
      · rw [h2 x nd.1, if_pos rfl]
      · exact h1 x v h
    · rw [List.mem_cons, not_or] at hx
      rw [h2 x hx.2, if_neg hx.1]
theorem bindC_none {kindOf : Str → Option NameKind} : ∀ {binds : List (Str × Value)} {m : Str → Option Value}, (∀ x ∈ binds, kindOf x.1 = some .local) → bindC kindOf binds m = m
  | [], m, _ => rfl
  | (n, v) :: r, m, h => by
    simp only [bindC, h (n, v) (.head _), if_true]
    exact bindC_none fun x hx => h x (.tail _ hx)

noncomputable def chkC (scope : Scope) (ps others : List Str) (cn : Str) (gs : List Str) : Bool :=
  decide (ps ++ others).Nodup && ((ps ++ others).all fun x => scope.names.lookup x == some .local && !(x == ("__debug__" : Str))) && (gs.all fun x => scope.names.lookup x == some .globalImplicit && !(x == ("__debug__" : Str))) &&
    (scope.names.lookup cn == some .cell) && !scope.isCoroutine && !scope.isGenerator && (scope.kind == .function)
theorem enterX_ {n : Nat} {Q : Value → Shared → Prop} {name qual : Str} {params : Arguments} {body : List Stmt} {scope : Scope} {dV kV doc pm cdv ct oc : Value} {an od : Option Addr} {osl : Array (Option Value)} {f : Addr} {vs : List Value}
    (ps others : List Str) (cn : Str) (glb : List (Str × Value))
    (hA : Rm (n + 1) A) (O : Ok K R s) (hl : Led R led s)
    (ho : K.lookup f = some ⟨oc, od, .func (fnOf name qual params body scope dV kV doc pm an cdv ct), osl⟩) (hcd : codeIn K cdv qual = true)
    (hc : chkC scope ps others cn (glb.map (·.1)) = true) (hcells : ∀ k, cellsFrom k scope.names [] = [(cn, k)]) (hg : ∀ p ∈ glb, Gl K p.1 p.2) (hlen : ps.length = vs.length)
    (hbind : bindArgs (fnOf name qual params body scope dV kV doc pm an cdv ct) ⟨vs, []⟩ = pure (ps.zip vs))
    (h : ∀ env ca o s', env.qual = qual ++ ".<locals>." → env.code = cdv → env.cells = [(cn, ca)] → env.kindOf cn = some .cell → o.data = .cell none → s.heap.get? ca = none →
      Fm K env s (led.map (·.1)) R R (l0 ps vs others) ((ca, o) :: led) s' → EG K env glb → Rm n (A.deeper env) →
      wpAny (model prog w) (A.deeper env) (execs body env) (retK Q) (fun _ _ => False) s') :
    wpAny (model prog w) A (call (.ref f) vs) Q E s := by
  refine wpAny_call ?_
  simp only [chkC, Bool.and_eq_true, decide_eq_true_eq, List.all_eq_true, beq_iff_eq, Bool.not_eq_true', bne_iff_ne, ne_eq] at hc
  obtain ⟨⟨⟨⟨⟨⟨h1, h2⟩, h3⟩, h4⟩, h5⟩, h6⟩, h7⟩ := hc
  have hs := O.K _ _ ho
  have hps : ∀ x ∈ ps, scope.names.lookup x = some .local := fun x hx => (h2 x (List.mem_append_left _ hx)).1
  refine codeAny_call_cells (fd := fnOf name qual params body scope dV kV doc pm an cdv ct) (body := body) (binds := ps.zip vs) hA.room hs rfl O.nolimit (codeRec_of O.K hcd) rfl hbind rfl (fun x hx => .inl (hps _ (List.of_mem_zip hx).1)) (fun s₁ X => ?_) h5 h6 h7
  have hlive : ∀ b o, s.heap.get? b = some o → b ≠ s.heap.objs.size := fun b o e q => Nat.lt_irrefl _ (q ▸ Heap.lt_size e)
  have hnone : ∀ b, s.heap.objs.size ≤ b → s.heap.get? b = none := fun b hb => by
    cases q : s.heap.get? b with
    | none => rfl
    | some o => exact absurd (Heap.lt_size q) (Nat.not_lt.mpr hb)
  have ecells : (callEnvC (fnOf name qual params body scope dV kV doc pm an cdv ct) s.heap.objs.size f).cells = [(cn, s.heap.objs.size + 1)] := hcells _
  have ekind : ∀ x, (callEnvC (fnOf name qual params body scope dV kV doc pm an cdv ct) s.heap.objs.size f).kindOf x = scope.names.lookup x := fun x => rfl
  have hcell := X.cell cn (s.heap.objs.size + 1) (by rw [ecells]; simp)
  rw [bindC_none (fun x hx => (ekind x.1).trans (hps _ (List.of_mem_zip hx).1))] at hcell
  obtain ⟨oc', hoc, hdc⟩ := hcell
  obtain ⟨h₁, tk, rfl, hk₁⟩ := X.done
  obtain ⟨b1, b2⟩ := bindL_all (kindOf := (callEnvC (fnOf name qual params body scope dV kV doc pm an cdv ct) s.heap.objs.size f).kindOf) (vs := vs) (m := fun _ => none) hlen (List.nodup_append.mp h1).1 (fun x hx => (ekind x).trans (hps x hx))
  have hns := X.toInCall.ns
  refine wpAny_mono (h (callEnvC (fnOf name qual params body scope dV kV doc pm an cdv ct) s.heap.objs.size f) (s.heap.objs.size + 1) oc' _ rfl rfl ecells ((ekind cn).trans h4) hdc (hnone _ (by omega))
    ⟨⟨⟨O.stat, fun a o e => hk₁ _ _ (O.sub a o e)⟩, rfl, rfl, rfl, fun a o _ e => hk₁ _ _ e, fun a o e => ⟨o, hk₁ _ _ e⟩, fun _ _ _ => rfl⟩, ⟨?_, fun p hp => ?_, fun p hp => ?_⟩, fun p hp => ?_, ⟨_, hns, fun p hp => ?_⟩, ?_, hnone _ (Nat.le_refl _), ?_, ?_, h7, fun p hp => ?_⟩
    ⟨rfl, rfl, fun p hp => ⟨(h3 _ (List.mem_map_of_mem hp)).1, (h3 _ (List.mem_map_of_mem hp)).2, hg p hp⟩⟩ hA.deeper) (fun fl s' q => by cases fl <;> exact q) fun _ _ q => q.elim
  · rw [List.map_cons]
    refine List.nodup_cons.mpr ⟨fun q => ?_, hl.nd⟩
    obtain ⟨p, hp, e⟩ := List.mem_map.mp q
    have := hl.here p hp
    rw [e, hnone _ (by omega)] at this; cases this
  · rcases List.mem_cons.mp hp with rfl | hp
    · exact hoc
    · exact hk₁ _ _ (hl.here p hp)
  · rcases List.mem_cons.mp hp with rfl | hp
    · show R (s.heap.objs.size + 1) = none
      cases q : R (s.heap.objs.size + 1) with
      | none => rfl
      | some o => have := O.sub _ _ q; rw [hnone _ (by omega)] at this; cases this
    · exact hl.no p hp
  · rcases List.mem_cons.mp hp with rfl | hp
    · exact .inr (hnone _ (by show s.heap.objs.size ≤ s.heap.objs.size + 1; omega))
    · exact .inl (List.mem_map_of_mem hp)
  · rcases List.mem_append.mp hp with hp | hp
    · obtain ⟨x, v⟩ := p
      cases v with
      | some v => exact b1 x v hp
      | none =>
        exfalso
        have := (List.of_mem_zip hp).2
        simp at this
    · obtain ⟨x, hx, rfl⟩ := List.mem_map.mp hp
      exact b2 x fun q => (List.nodup_append.mp h1).2.2 _ q _ hx rfl
  · rw [l0_keys hlen]; exact h1
  · show R s.heap.objs.size = none
    cases q : R s.heap.objs.size with
    | none => rfl
    | some o => exact absurd rfl (hlive _ _ (O.sub _ _ q))
  · show s.heap.objs.size ∉ _
    rw [List.map_cons]
    intro q
    rcases List.mem_cons.mp q with q | q
    · exact absurd q (by show s.heap.objs.size ≠ s.heap.objs.size + 1; omega)
    · obtain ⟨p, hp, e⟩ := List.mem_map.mp q
      exact hlive _ _ (hl.here p hp) e
  · have hm : p.1 ∈ ps ++ others := by
      rw [← l0_keys (vs := vs) hlen]; exact List.mem_map_of_mem hp
    exact ⟨(h2 _ hm).1, (h2 _ hm).2⟩
/-- a store to a cell of the frame -/
theorem stC_ {x : Str} {ca : Addr} {o : Obj} {v₀ : Option Value} {v : Value} {Q : Unit → Shared → Prop} {led' : Obj → Ledger} (F : Fm K env se S R₀ R l led s) (hk : env.kindOf x = some .cell) (hc : env.cells.lookup x = some ca) (hd : o.data = .cell v₀) (U : ∀ o', UpdL ca o o' led (led' o'))
    (h : ∀ o' s', o'.data = .cell (some v) → Fm K env se S R₀ R l (led' o') s' → Q () s') : wpAny (model prog w) A (storeName env x v) Q E s := by
  refine wpAny_storeName_cell F.kind hk hc ⟨o, F.lgr.here _ (U o).mem, hd⟩ fun h' hv hs => ?_
  obtain ⟨o', ho', hd'⟩ := hv
  exact h o' _ hd' (F.updH (U o') hs ho')
theorem ldC_ {x : Str} {pos : Pos} {ca : Addr} {o : Obj} {v : Value} {Q : Value → Shared → Prop} (F : Fm K env se S R₀ R l led s) (hk : env.kindOf x = some .cell) (hb : (x == ("__debug__" : Str)) = false) (hc : env.cells.lookup x = some ca) (hR : R ca = some o) (hd : o.data = .cell (some v)) (h : Q v s) :
    wpAny (model prog w) A (eval (.Name x pos) env) Q E s := wpAny_Name (wpAny_loadName_cell F.kind hk hc ⟨o, F.out.ok.sub _ _ hR, hd⟩ h) hb
theorem ldF_ {x : Str} {pos : Pos} {ca : Addr} {o : Obj} {v : Value} {Q : Value → Shared → Prop} (F : Fm K env se S R₀ R l led s) (hk : env.kindOf x = some .free) (hb : (x == ("__debug__" : Str)) = false) (hn : (x == ("__classdict__" : Str)) = false) (hc : env.cells.lookup x = some ca) (hR : R ca = some o) (hd : o.data = .cell (some v)) (h : Q v s) :
    wpAny (model prog w) A (eval (.Name x pos) env) Q E s := wpAny_Name (wpAny_loadName_free F.kind hk hc ⟨o, F.out.ok.sub _ _ hR, hd⟩ h hn) hb
theorem UpdL.refl_eq {a : Addr} {o : Obj} {r r' : Ledger} (h : UpdL a o o r r') : r' = r := by
  induction h with
  | head => rfl
  | tail _ ih => rw [ih]
/-- the table of a maker's lambdas -/
structure TabI (R : Imm) (pos : Pos) (qual : Str) (ps : Array Value) : Prop where
  ok : TriplesOk ps.toList
  hit : codeAmong pos ps.toList = none ∨ ∃ c' oc vs t, codeAmong pos ps.toList = some (.ref c') ∧ R c' = some oc ∧ oc.data = .fields vs ∧ vs[1]? = some (.str qual t)
theorem TabI.mono {pos : Pos} {qual : Str} {ps : Array Value} (k : ∀ a o, R a = some o → R' a = some o) (h : TabI R pos qual ps) : TabI R' pos qual ps := by
  refine ⟨h.ok, h.hit.imp id ?_⟩
  rintro ⟨c', oc, vs, t, e1, e2, e3, e4⟩
  exact ⟨c', oc, vs, t, e1, k _ _ e2, e3, e4⟩
noncomputable def CodeR (R : Imm) (cd : Value) (q : Str) : Prop := ∃ c' oc vs t, cd = .ref c' ∧ R c' = some oc ∧ oc.data = .fields vs ∧ vs[1]? = some (.str q t)
theorem CodeR.mono {cd : Value} {q : Str} (k : ∀ a o, R a = some o → R' a = some o) (h : CodeR R cd q) : CodeR R' cd q := by
  obtain ⟨c', oc, vs, t, e1, e2, e3, e4⟩ := h
  exact ⟨c', oc, vs, t, e1, k _ _ e2, e3, e4⟩
theorem CodeR.code {cd : Value} {q : Str} (O : Ok K R s) (h : CodeR R cd q) : s.heap.CodeRec cd q := by
  obtain ⟨c', oc, vs, t, e1, e2, e3, e4⟩ := h
  exact ⟨c', oc, vs, t, e1, O.sub _ _ e2, e3, e4⟩
theorem lam_ {params : Arguments} {body : Expr} {scope : Scope} {pos : Pos} {c P : Addr} {ps : Array Value} {clos : List (Str × Addr)} {Q : Value → Shared → Prop} {led' : Obj → Ledger} {qual : Str} {glb : List (Str × Value)}
    (F : Fm K env se S R₀ R l led s) (G : EG K env glb) (U : ∀ o', UpdL P (tabObj ps) o' led (led' o')) (hq : env.qual ++ Str.ofString "<lambda>" = qual) (T : TabI R pos qual ps) (hcode : env.code = .ref c) (hCP : (c, P) = (328, 324) ∨ (c, P) = (321, 317))
    (hcl : closureFor scope env = pure clos) (hdef : defaultsOf params env = ([], []))
    (h : ∀ f cv pm ctv ps' R' s', (∀ a o, R a = some o → R' a = some o) → R' f = some { cls := .type "function", data := .func (kla_fn "<lambda>" qual params body scope clos pm cv ctv) } → CodeR R' cv qual → TabI R' pos qual ps' →
      Fm K env se S R₀ R' l (led' (tabObj ps')) s' → Q (.ref f) s') :
    wpAny (model prog w) A (eval (.Lambda params body scope pos) env) Q E s := by
  obtain ⟨hs, ⟨p, loose, me, mg, mb, TT⟩, X, C1, C2, e⟩ := F.out.ok.stat
  have k : ∀ b o, hs.get? b = some o → s.heap.get? b = some o := fun a o q => F.out.ok.sub a o (e a o q)
  have C : CodeHd s.heap c P := by
    rcases hCP with q | q <;> (cases q) <;> first | exact C1.keeps k | exact C2.keeps k
  have hP : s.heap.get? P = some (tabObj ps) := F.lgr.here _ (U (tabObj ps)).mem
  have hRP := F.lgr.no _ (U (tabObj ps)).mem
  have hLP : env.locals ≠ P := fun q => F.LL (q ▸ List.mem_map_of_mem (f := Prod.fst) (U (tabObj ps)).mem)
  have hg := TT.g.keeps k
  obtain ⟨bm, ob, b1, b2, b3, b4, b5, b6⟩ := TT.bmain
  have hgP : mainGlobals ≠ P := fun q => by
    obtain ⟨o, es, ep, e, hd, _⟩ := hg
    rw [q, hP] at e; cases e; cases hd
  have hbP : bm ≠ P := fun q => by
    have e := k _ _ b3
    rw [q, hP] at e; cases e; cases b4
  have hbG : bm ≠ mainGlobals := fun q => by
    obtain ⟨o, es, ep, e, hd, _⟩ := TT.g
    rw [q, e] at b3; cases b3; rw [hd] at b6; cases b6
  subst hq
  refine kla_eval hdef ?_
  obtain ⟨m, hns, hm⟩ := F.ns
  obtain ⟨T1, T2⟩ := T
  rcases T2 with T2 | ⟨c', oc, vs, t, t1, t2, t3, t4⟩
  · refine kla_makeFunction (mg := mg) hcl G.gl hg hcode C hP T1 T2 hgP ⟨bm, ob, b1, b2, hbG, hbP, k _ _ b3, b4, b5, b6⟩ fun c' ctv h' tk hx hge hlt hrec htb => ?_
    obtain ⟨c₂, oc, vs, t, e2, hoc, hd, hv⟩ := hrec
    cases e2
    have hz1 : s.heap.get? c' = none := Heap.get?_none_of_le hge
    have hz2 : s.heap.get? h'.objs.size = none := Heap.get?_none_of_le (Nat.le_trans hge (Nat.le_of_lt hlt))
    have F1 := F.updLib (h' := h'.push (kla_obj "<lambda>" (env.qual ++ Str.ofString "<lambda>") params body scope clos ((mg "__name__").getD .none) c' ctv)) (t' := tk) (U _) hm ((hns.extBut hx hLP).push _)
      (fun b x hb1 hb2 e => Heap.get?_push_of_some _ (hx b x hb2 e)) (Heap.get?_push_of_some _ htb)
    obtain ⟨q1, q2, q3, q4⟩ := F.fresh hz1
    obtain ⟨r1, r2, r3, r4⟩ := F.fresh hz2
    have k1 := (U (tabObj (ps ++ #[rawInt pos.line, rawInt pos.col, .ref c']))).keys
    have F2 := F1.addNew (a := c') (o := oc) (by rw [k1]; exact q1) q2 q3 q4 (Heap.get?_push_of_some _ hoc)
    have F3 := F2.freeze q3
    have hne : h'.objs.size ≠ c' := Nat.ne_of_gt hlt
    have F4 := F3.addNew (a := h'.objs.size) (by rw [k1]; exact r1) (by rw [Imm.put_ne hne]; exact r2) r3 r4 (Heap.get?_push_size _ rfl)
    have F5 := F4.freeze r3
    have le1 : ∀ a o, R a = some o → (R.put c' oc) a = some o := Imm.put_mono q2
    have le2 : ∀ a o, (R.put c' oc) a = some o → ((R.put c' oc).put h'.objs.size (kla_obj "<lambda>" (env.qual ++ Str.ofString "<lambda>") params body scope clos ((mg "__name__").getD .none) c' ctv)) a = some o := Imm.put_mono (by rw [Imm.put_ne hne]; exact r2)
    refine h _ _ _ _ _ _ _ (fun a o e => le2 _ _ (le1 _ _ e)) Imm.put_self ⟨c', oc, vs, t, rfl, le2 _ _ Imm.put_self, hd, hv⟩ ⟨?_, .inr ⟨c', oc, vs, t, ?_, le2 _ _ Imm.put_self, hd, hv⟩⟩ F5
    · rw [Array.toList_append]; exact TriplesOk_snoc _ _ _ _ T1
    · rw [Array.toList_append]; exact codeAmong_snoc _ T1 T2
  · refine kla_makeFunctionHit (mg := mg) hcl G.gl hg hcode C hP T1 t1 ⟨bm, ob, b1, b2, hbG, hbP, k _ _ b3, b4, b5, b6⟩ fun ctv h' tk hk hsz => ?_
    have hz2 : s.heap.get? h'.objs.size = none := Heap.get?_none_of_le hsz
    obtain ⟨r1, r2, r3, r4⟩ := F.fresh hz2
    have F1 := F.ext (h' := h'.push { cls := .type "function", data := .func (kla_fn "<lambda>" (env.qual ++ Str.ofString "<lambda>") params body scope clos ((mg "__name__").getD .none) (.ref c') ctv) }) (t' := tk) (fun b o e => Heap.get?_push_of_some _ (hk b o e))
    have F4 := F1.addNew (a := h'.objs.size) r1 r2 r3 r4 (Heap.get?_push_size _ rfl)
    have F5 := F4.freeze r3
    have le2 : ∀ a o, R a = some o → (R.put h'.objs.size { cls := .type "function", data := .func (kla_fn "<lambda>" (env.qual ++ Str.ofString "<lambda>") params body scope clos ((mg "__name__").getD .none) (.ref c') ctv) }) a = some o := Imm.put_mono r2
    refine h _ _ _ _ ps _ _ le2 Imm.put_self ⟨c', oc, vs, t, rfl, le2 _ _ t2, t3, t4⟩ ⟨T1, .inr ⟨c', oc, vs, t, t1, le2 _ _ t2, t3, t4⟩⟩ ?_
    have e0 : led' (tabObj ps) = led := UpdL.refl_eq (U _)
    rw [e0]
    exact F5
/-- a lambda is called -/
theorem enterL_ {n : Nat} {Q : Value → Shared → Prop} {name qual : Str} {params : Arguments} {body : Expr} {scope : Scope} {clos : List (Str × Addr)} {pm cv ctv : Value} {f : Addr} {vs : List Value}
    (ps : List Str) (glb : List (Str × Value))
    (hA : Rm (n + 1) A) (O : Ok K R s) (hl : Led R led s)
    (ho : R f = some { cls := .type "function", data := .func (kla_fn name qual params body scope clos pm cv ctv) }) (hcd : CodeR R cv qual)
    (hc : chk scope ps [] (glb.map (·.1)) = true) (hg : ∀ p ∈ glb, Gl K p.1 p.2) (hlen : ps.length = vs.length)
    (hbind : bindArgs (kla_fn name qual params body scope clos pm cv ctv) ⟨vs, []⟩ = pure (ps.zip vs))
    (h : ∀ env s', env.cells = clos → env.scope = scope → Fm K env s (led.map (·.1)) R R (l0 ps vs []) led s' → EG K env glb → Rm n (A.deeper env) →
      wpAny (model prog w) (A.deeper env) (eval body env) Q (fun _ _ => False) s') :
    wpAny (model prog w) A (call (.ref f) vs) Q E s := by
  refine wpAny_call ?_
  simp only [chk, Bool.and_eq_true, decide_eq_true_eq, List.all_eq_true, beq_iff_eq, Bool.not_eq_true', bne_iff_ne, ne_eq] at hc
  obtain ⟨⟨⟨⟨⟨⟨h1, h2⟩, h3⟩, h4⟩, h5⟩, h6⟩, h7⟩ := hc
  refine kla_callFunE hA.room (O.sub _ _ ho) rfl h5 h6 rfl (hcd.code O) ?_
  rw [hbind]
  refine wpAny_pure (wpAny_newFunctionEnv (fun x hx => h4 x hx) (fun x hx => (h2 _ (List.mem_append_left _ (List.of_mem_zip hx).1)).1) (fun h₁ hns hsb => ⟨O.nolimit.fresh _ hsb, ?_⟩) h7)
  have hk₁ : ∀ b o, s.heap.get? b = some o → h₁.get? b = some o := fun b o e => hsb.extBut b o (Nat.ne_of_lt (Heap.lt_size e)) (Heap.get?_push_of_some _ e)
  have hlive : ∀ b o, s.heap.get? b = some o → b ≠ s.heap.objs.size := fun b o e q => Nat.lt_irrefl _ (q ▸ Heap.lt_size e)
  have hnone : s.heap.get? s.heap.objs.size = none := by
    cases q : s.heap.get? s.heap.objs.size with
    | none => rfl
    | some o => exact absurd rfl (hlive _ _ q)
  show codeAny _ _ (.expr body (envX qual scope s.heap.objs.size f cv clos)) _ _
  refine kla_codeExpr (wpAny_mono (h (envX qual scope s.heap.objs.size f cv clos) _ rfl rfl ⟨⟨⟨O.stat, fun a o e => hk₁ _ _ (O.sub a o e)⟩, rfl, rfl, rfl, fun a o _ e => hk₁ _ _ e, fun a o e => ⟨o, hk₁ _ _ e⟩, fun _ _ _ => rfl⟩, ⟨hl.nd, fun p hp => hk₁ _ _ (hl.here p hp), hl.no⟩, fun p hp => .inl (List.mem_map_of_mem hp), ⟨_, hns, fun p hp => ?_⟩, ?_, hnone, ?_, ?_, h7, fun p hp => ?_⟩ ⟨rfl, rfl, fun p hp => ⟨(h3 _ (List.mem_map_of_mem hp)).1, (h3 _ (List.mem_map_of_mem hp)).2, hg p hp⟩⟩ hA.deeper) (fun fl s' q => q) fun _ _ q => q.elim)
  · rcases List.mem_append.mp hp with hp | hp
    · obtain ⟨x, v⟩ := p
      cases v with
      | some v => exact lookup_zip hlen (List.nodup_append.mp h1).1 x v hp
      | none =>
        exfalso
        have := (List.of_mem_zip hp).2
        simp at this
    · simp at hp
  · rw [l0_keys hlen]; exact h1
  · show R s.heap.objs.size = none
    cases q : R s.heap.objs.size with
    | none => rfl
    | some o => exact absurd rfl (hlive _ _ (O.sub _ _ q))
  · intro q
    obtain ⟨p, hp, e⟩ := List.mem_map.mp q
    exact hlive _ _ (hl.here p hp) e
  · have hm : p.1 ∈ ps ++ [] := by
      rw [← l0_keys (vs := vs) hlen]; exact List.mem_map_of_mem hp
    exact ⟨(h2 _ hm).1, (h2 _ hm).2⟩
theorem unpackT3_ {a b c : Str} {pa pb pc pos : Pos} {k : Nat} {t : Addr} {x y z : Value} {Q : Unit → Shared → Prop} (F : Fm K env se S R₀ R l led s) (hh : A.handled = none) (ht : IsTup s.heap t #[x, y, z])
    (h : ∀ s', Fm K env se S R₀ R l led s' → wpAny (model prog w) A (storeName env a x) (fun _ s₁ => wpAny (model prog w) A (storeName env b y) (fun _ s₂ => wpAny (model prog w) A (storeName env c z) Q E s₂) E s₁) E s') :
    wpAny (model prog w) A (assign (.Tuple [.Name a pa, .Name b pb, .Name c pc] k pos) env (.ref t)) Q E s := by
  refine assign_Tuple_tuple hh ht rfl rfl fun h' k' => ?_
  show wpAny _ _ (do holding [y, z] (assign (.Name a pa) env x); holding [z] (assign (.Name b pb) env y); holding [] (assign (.Name c pc) env z); pure ()) _ _ _
  refine wpAny_bind (wpAny_holding (wpAny_assign_Name (wpAny_mono (h _ (F.extS k')) (fun _ _ h₁ => ?_) fun _ _ e => e)))
  refine wpAny_bind (wpAny_holding (wpAny_assign_Name (wpAny_mono h₁ (fun _ _ h₂ => ?_) fun _ _ e => e)))
  exact wpAny_bind (wpAny_holding (wpAny_assign_Name (wpAny_mono h₂ (fun _ _ h₃ => wpAny_pure h₃) fun _ _ e => e)))
theorem dE_ {pos : Pos} {Q : Value → Shared → Prop} (F : Fm K env se S R₀ R l led s) (h : ∀ a s', Fm K env se S R₀ R l ((a, emptyDict) :: led) s' → se.heap.get? a = none → Q (.ref a) s') : wpAny (model prog w) A (eval (.Dict [] [] pos) env) Q E s :=
  wpAny_Dict_empty (h _ _ (F.push rfl) F.size_se)
theorem Fm.swap2 {p q r : Addr × Obj} (F : Fm K env se S R₀ R l (p :: q :: r :: led) s) : Fm K env se S R₀ R l (p :: r :: q :: led) s := F.perm ((List.Perm.swap _ _ _).cons _)
theorem Fm.bring3 {p q r a : Addr × Obj} (F : Fm K env se S R₀ R l (p :: q :: r :: a :: led) s) : Fm K env se S R₀ R l (a :: p :: q :: r :: led) s := F.perm (List.perm_middle (l₁ := [p, q, r]) (l₂ := led) (a := a)).symm
theorem Fm.bring2 {p q a : Addr × Obj} (F : Fm K env se S R₀ R l (p :: q :: a :: led) s) : Fm K env se S R₀ R l (a :: p :: q :: led) s := F.perm (List.perm_middle (l₁ := [p, q]) (l₂ := led) (a := a)).symm
theorem Fm.bring4 {p q r u a : Addr × Obj} (F : Fm K env se S R₀ R l (p :: q :: r :: u :: a :: led) s) : Fm K env se S R₀ R l (a :: p :: q :: r :: u :: led) s := F.perm (List.perm_middle (l₁ := [p, q, r, u]) (l₂ := led) (a := a)).symm
end

-- LQ
noncomputable abbrev sOk (x : Str) : Prop := PySem.PyData.strOk x = true
noncomputable def partD : Part → PyData
  | .s x => .str x
  | .b c => .bool c
  | .i n => .int n
  | .l xs => .list (xs.map .str)
noncomputable def partOk : Part → Prop
  | .s x => sOk x
  | .l xs => ∀ x ∈ xs, sOk x
  | _ => True
noncomputable def noteD (n : Note) : PyData := .tuple [.str n.1, .list (n.2.map partD)]
noncomputable def noteOk (n : Note) : Prop := sOk n.1 ∧ ∀ p ∈ n.2, partOk p
theorem strs_lay {xs : List Str} (h : ∀ x ∈ xs, sOk x) : PyData.canLayAll0 (xs.map .str) = true := by
  induction xs with
  | nil => rfl
  | cons x r ih =>
    simp only [List.map_cons, PyData.canLayAll0, PyData.canLay0, Bool.and_eq_true]
    exact ⟨h x (.head _), ih fun y hy => h y (.tail _ hy)⟩
theorem part_lay {p : Part} (h : partOk p) : (partD p).canLay0 = true := by
  cases p with
  | s x => exact h
  | b c => rfl
  | i n => rfl
  | l xs => exact strs_lay h
theorem parts_lay {ps : List Part} (h : ∀ p ∈ ps, partOk p) : PyData.canLayAll0 (ps.map partD) = true := by
  induction ps with
  | nil => rfl
  | cons x r ih =>
    simp only [List.map_cons, PyData.canLayAll0, Bool.and_eq_true]
    exact ⟨part_lay (h x (.head _)), ih fun y hy => h y (.tail _ hy)⟩
theorem note_lay {n : Note} (h : noteOk n) : (noteD n).canLay0 = true := by
  simp only [noteD, PyData.canLay0, PyData.canLayAll0, Bool.and_eq_true, Bool.and_true]
  exact ⟨h.1, parts_lay h.2⟩
theorem notes_lay {ns : List Note} (h : ∀ n ∈ ns, noteOk n) : PyData.canLayAll0 (ns.map noteD) = true := by
  induction ns with
  | nil => rfl
  | cons x r ih =>
    simp only [List.map_cons, PyData.canLayAll0, Bool.and_eq_true]
    exact ⟨note_lay (h x (.head _)), ih fun y hy => h y (.tail _ hy)⟩
theorem depthAll_le {n : Nat} : ∀ {ds : List PyData}, (∀ d ∈ ds, d.depth ≤ n) → PyData.depthAll ds ≤ n
  | [], _ => by simp [PyData.depthAll]
  | d :: r, h => by
    simp only [PyData.depthAll]
    have h1 := h d (.head _)
    have h2 := depthAll_le (ds := r) fun y hy => h y (.tail _ hy)
    omega
theorem strs_depth {xs : List Str} : PyData.depthAll (xs.map .str) ≤ 0 := depthAll_le fun d hd => by
  obtain ⟨x, _, rfl⟩ := List.mem_map.mp hd
  simp [PyData.depth]
theorem part_depth {p : Part} : (partD p).depth ≤ 1 := by
  cases p with
  | l xs => have := strs_depth (xs := xs); simp only [partD, PyData.depth]; omega
  | _ => simp [partD, PyData.depth]
theorem note_depth {n : Note} : (noteD n).depth ≤ 3 := by
  have h1 : PyData.depthAll (n.2.map partD) ≤ 1 := depthAll_le fun d hd => by
    obtain ⟨x, _, rfl⟩ := List.mem_map.mp hd
    exact part_depth
  simp only [noteD, PyData.depth, PyData.depthAll]
  omega
theorem notes_shaped {ns : List Note} (h : ∀ n ∈ ns, noteOk n) : SeqAt.shaped (.list (ns.map noteD)) = true := by
  have h1 : PyData.depthAll (ns.map noteD) ≤ 3 := depthAll_le fun d hd => by
    obtain ⟨x, _, rfl⟩ := List.mem_map.mp hd
    exact note_depth
  refine Bool.and_eq_true_iff.mpr ⟨notes_lay h, decide_eq_true ?_⟩
  show PyData.depth (.list _) ≤ 64
  rw [PyData.depth]
  omega
theorem strs_shaped {xs : List Str} (h : ∀ x ∈ xs, sOk x) : SeqAt.shaped (.list (xs.map .str)) = true := by
  have h1 := strs_depth (xs := xs)
  refine Bool.and_eq_true_iff.mpr ⟨strs_lay h, decide_eq_true ?_⟩
  show PyData.depth (.list _) ≤ 64
  rw [PyData.depth]
  omega
theorem eqv_same {d : PyData} (h : SeqAt.shaped d = true) : PyData.eqv d d = true := SeqAt.eqv_refl d (SeqAt.canLay_of_shaped h)

theorem StrsAre.reads {h : Heap} {vs : List Value} {xs : List Str} (k : StrsAre vs xs) : ∃ as, ReadsAll h vs (xs.map .str) as := by
  induction k with
  | nil => exact ⟨_, .nil⟩
  | cons y t _ ih =>
    obtain ⟨as, ih⟩ := ih
    exact ⟨_, .cons (.str y t) ih⟩
theorem PartR.reads {R : Imm} {h : Heap} (e : ∀ a o, R a = some o → h.get? a = some o) {v : Value} {p : Part} (k : PartR R v p) : ∃ as, Reads h v (partD p) as := by
  cases k with
  | s => exact ⟨_, .str _ _⟩
  | b => exact ⟨_, .bool _⟩
  | i => exact ⟨_, .int _ _⟩
  | l h1 h2 =>
    obtain ⟨as, h3⟩ := StrsAre.reads (h := h) h2
    exact ⟨_, reads_list_at (e _ _ h1) rfl rfl h3⟩
theorem PartsR.reads {R : Imm} {h : Heap} (e : ∀ a o, R a = some o → h.get? a = some o) {vs : List Value} {ps : List Part} (k : PartsR R vs ps) : ∃ as, ReadsAll h vs (ps.map partD) as := by
  induction k with
  | nil => exact ⟨_, .nil⟩
  | cons k1 _ ih =>
    obtain ⟨as, ih⟩ := ih
    obtain ⟨bs, k1⟩ := k1.reads e
    exact ⟨_, .cons k1 ih⟩
theorem NoteR.reads {R : Imm} {h : Heap} (e : ∀ a o, R a = some o → h.get? a = some o) {v : Value} {p : Note} (k : NoteR R v p) : ∃ as, Reads h v (noteD p) as := by
  cases k with
  | mk h1 h2 h3 =>
    obtain ⟨as, h3⟩ := h3.reads e
    exact ⟨_, reads_tuple_at (e _ _ h1) rfl rfl (.cons (.str _ _) (.cons (reads_list_at (e _ _ h2) rfl rfl h3) .nil))⟩
theorem NotesR.reads {R : Imm} {h : Heap} (e : ∀ a o, R a = some o → h.get? a = some o) {vs : List Value} {ns : List Note} (k : NotesR R vs ns) : ∃ as, ReadsAll h vs (ns.map noteD) as := by
  induction k with
  | nil => exact ⟨_, .nil⟩
  | cons k1 _ ih =>
    obtain ⟨as, ih⟩ := ih
    obtain ⟨bs, k1⟩ := k1.reads e
    exact ⟨_, .cons k1 ih⟩
section
variable {prog : Program} {w : World} {K : Frag} {env : Env} {se s s' : Shared} {S S₀ : List Addr} {R₀ R R' : Imm} {l l' : List (Str × Option Value)} {led led' l1 l1' l2 : Ledger} {A : Around} {E : Value → Shared → Prop}
theorem Rm.eqRoom {n : Nat} (h : Rm n A) : A.units + 64 < cLine := by have := h.un; show A.units + 64 < 9900; omega
theorem neNotes_ {n : Nat} {a b : Addr} {vs us : List Value} {k m : Nat} {ns : List Note} {Q : Value → Shared → Prop} (F : Fm K env se S R₀ R l led s) (hA : Rm n A) (ha : (a, listOf vs.toArray k) ∈ led) (hb : (b, listOf us.toArray m) ∈ led) (h1 : NotesR R vs ns) (h2 : NotesR R us ns) (hok : ∀ n ∈ ns, noteOk n)
    (h : Q (.bool false) s) : wpAny (model prog w) A (compareOp .NotEq (.ref a) (.ref b)) Q E s := by
  obtain ⟨as, r1⟩ := h1.reads F.out.ok.sub
  obtain ⟨bs, r2⟩ := h2.reads F.out.ok.sub
  have hs := notes_shaped hok
  refine ne_dataH (reads_list_at (F.lgr.here _ ha) rfl rfl (by simpa using r1)) (reads_list_at (F.lgr.here _ hb) rfl rfl (by simpa using r2)) hs hs hA.eqRoom ?_
  rw [eqv_same hs]; exact h
theorem eqStrs_ {n : Nat} {a b : Addr} {vs us : List Value} {k m : Nat} {xs : List Str} {Q : Value → Shared → Prop} (F : Fm K env se S R₀ R l led s) (hA : Rm n A) (ha : (a, listOf vs.toArray k) ∈ led) (hb : (b, listOf us.toArray m) ∈ led) (h1 : StrsAre vs xs) (h2 : StrsAre us xs) (hok : ∀ x ∈ xs, sOk x)
    (h : Q (.bool true) s) : wpAny (model prog w) A (compareOp .Eq (.ref a) (.ref b)) Q E s := by
  obtain ⟨as, r1⟩ := StrsAre.reads (h := s.heap) h1
  obtain ⟨bs, r2⟩ := StrsAre.reads (h := s.heap) h2
  have hs := strs_shaped hok
  refine eq_dataH (reads_list_at (F.lgr.here _ ha) rfl rfl (by simpa using r1)) (reads_list_at (F.lgr.here _ hb) rfl rfl (by simpa using r2)) hs hs hA.eqRoom ?_
  rw [eqv_same hs]; exact h
end

-- LV
theorem sOk_app {x y : Str} (hx : sOk x) (hy : sOk y) : sOk (x ++ y) := by
  have hx' : x.cps.all (· < 0x110000) = true := hx
  have hy' : y.cps.all (· < 0x110000) = true := hy
  show (x.cps ++ y.cps).all (· < 0x110000) = true
  rw [Array.all_append, hx', hy']; rfl
theorem sOk_join {sep : Str} (hs : sOk sep) : ∀ {xs : List Str}, (∀ x ∈ xs, sOk x) → sOk (Txt.join sep xs)
  | xs, h => by
    rw [show Txt.join sep xs = Str.join sep xs from StrLaws.glued_eq_join sep xs]
    induction xs with
    | nil => exact (by decide +kernel : sOk Str.empty)
    | cons x r ih =>
      cases r with
      | nil => exact h x (.head _)
      | cons y r => exact sOk_app (sOk_app (h x (.head _)) hs) (ih fun z hz => h z (.tail _ hz))
theorem sOk_slice {x : Str} {a b : Option Int} (h : sOk x) : sOk (Txt.slice x a b) := by
  unfold Txt.slice
  split
  · exact h
  · unfold sOk PyData.strOk at *
    simp only [Array.all_eq_true_iff_forall_mem] at *
    intro c hc
    simp only [List.mem_toArray, List.mem_filterMap] at hc
    obtain ⟨i, _, hi⟩ := hc
    exact h c (Array.mem_of_getElem? hi)
theorem short_ok {x : Str} (h : short x = true) : sOk x ∧ x.length ≤ 10 := by
  simp only [short, Bool.and_eq_true, decide_eq_true_eq] at h
  exact h
theorem part_text_ok {p : Part} (h : partOk p) (hi : ∀ n, p ≠ .i n) : sOk p.text := by
  cases p with
  | s x => exact h
  | b c => cases c <;> exact (by decide +kernel)
  | i n => exact absurd rfl (hi n)
  | l xs => exact sOk_app (sOk_app (by decide +kernel) (sOk_join (by decide +kernel) h)) (by decide +kernel)
theorem saidT_ok {w : Str} {ps : List Part} (hw : sOk w) (h : ∀ p ∈ ps, partOk p ∧ ∀ n, p ≠ .i n) : sOk (saidT w ps) := by
  unfold saidT
  refine sOk_app (sOk_app (sOk_app (sOk_slice hw) (by decide +kernel)) (sOk_join (by decide +kernel) fun x hx => ?_)) (by decide +kernel)
  obtain ⟨p, hp, rfl⟩ := List.mem_map.mp hx
  exact part_text_ok (h p hp).1 (h p hp).2

noncomputable def tot (st : List Str) : Nat := (st.map (·.length)).sum + st.length
theorem tot_app (a b : List Str) : tot (a ++ b) = tot a + tot b := by
  unfold tot; rw [List.map_append, List.sum_append, List.length_append]; omega
theorem tot_one (x : Str) : tot [x] = x.length + 1 := by simp [tot]
theorem base_under (o : Sim) (st : List Str) : base o st ++ under o st = st := List.take_append_drop _ _
theorem tot_bu (o : Sim) (st : List Str) : tot (base o st) + tot (under o st) = tot st := by rw [← tot_app, base_under]
theorem under_len {o : Sim} {st : List Str} (h : o.need ≤ st.length) : (under o st).length = o.many := by
  unfold under; rw [List.length_drop]
  have : o.many ≤ o.need := by cases o <;> first | exact Nat.le_refl _ | exact Nat.zero_le _
  omega
theorem base_len {o : Sim} {st : List Str} (h : o.need ≤ st.length) : (base o st).length = st.length - o.many := by
  unfold base; rw [List.length_take]; omega

noncomputable def psum (ps : List Part) : Nat := ((ps.map Part.text).map (·.length)).sum
theorem ltext_len (u : List Str) : (Part.text (.l u)).length ≤ tot u + 2 := by
  have h := join_length_le' (Str.ofString ";") u (by decide)
  show ((Str.ofString "[" ++ Txt.join _ u) ++ Str.ofString "]").length ≤ _
  rw [Str.length_append, Str.length_append]
  show 1 + _ + 1 ≤ _
  unfold tot; omega
theorem btext_len (c : Bool) : (Part.text (.b c)).length ≤ 5 := by cases c <;> exact Nat.le_of_ble_eq_true rfl
theorem strs_psum (u : List Str) : psum (u.map .s) = (u.map (·.length)).sum := by
  unfold psum; rw [List.map_map, List.map_map]; rfl
theorem tot_head_tail {u : List Str} (h : 0 < u.length) : (u.headD (Str.ofString "")).length + tot u.tail + 1 = tot u := by
  cases u with
  | nil => cases h
  | cons a r => simp [tot]; omega
theorem ask_size {o : Sim} {u : List Str} (hq : o.quiet = false) (hk : o.ok = true) (hu : u.length = o.many) : psum (o.asks u).2 + (o.asks u).2.length ≤ tot u + 20 := by
  have hl := ltext_len u
  cases o with
  | push x => cases hq
  | double => cases hq
  | var x => have := (short_ok hk).2; simp only [Sim.asks, psum, List.map_cons, List.map_nil, List.sum_cons, List.sum_nil, Part.text, List.length_cons, List.length_nil]; omega
  | ref x => have := (short_ok hk).2; simp only [Sim.asks, psum, List.map_cons, List.map_nil, List.sum_cons, List.sum_nil, Part.text, List.length_cons, List.length_nil]; omega
  | kw x => have := (short_ok hk).2; simp only [Sim.asks, psum, List.map_cons, List.map_nil, List.sum_cons, List.sum_nil, Part.text, List.length_cons, List.length_nil]; omega
  | del x => have := (short_ok hk).2; simp only [Sim.asks, psum, List.map_cons, List.map_nil, List.sum_cons, List.sum_nil, Part.text, List.length_cons, List.length_nil]; omega
  | un x => have := (short_ok hk).2; simp only [Sim.asks, psum, List.map_cons, List.map_nil, List.sum_cons, List.sum_nil, List.length_cons, List.length_nil]; show x.length + ((Part.text (.l u)).length + 0) + 2 ≤ _; omega
  | bin x => have := (short_ok hk).2; simp only [Sim.asks, psum, List.map_cons, List.map_nil, List.sum_cons, List.sum_nil, List.length_cons, List.length_nil]; show x.length + ((Part.text (.l u)).length + 0) + 2 ≤ _; omega
  | join => simp only [Sim.asks, psum, List.map_cons, List.map_nil, List.sum_cons, List.sum_nil, List.length_cons, List.length_nil]; show 1 + ((Part.text (.l u)).length + 0) + 2 ≤ _; omega
  | value => show psum (u.map .s) + (u.map Part.s).length ≤ _; rw [strs_psum, List.length_map]; unfold tot; omega
  | indirect => show psum (u.map .s) + (u.map Part.s).length ≤ _; rw [strs_psum, List.length_map]; unfold tot; omega
  | cursor => show psum (u.map .s) + (u.map Part.s).length ≤ _; rw [strs_psum, List.length_map]; unfold tot; omega
  | given x =>
    have := (short_ok hk).2
    have e : psum (.s x :: u.map .s) = x.length + psum (u.map .s) := by simp [psum, Part.text]
    show psum (.s x :: u.map .s) + (.s x :: u.map Part.s).length ≤ _
    rw [e, strs_psum, List.length_cons, List.length_map]; unfold tot; omega
  | call f n c =>
    simp only [Sim.ok, Bool.and_eq_true] at hk
    have := (short_ok hk.1).2
    have hb := btext_len c
    simp only [Sim.asks, psum, List.map_cons, List.map_nil, List.sum_cons, List.sum_nil, List.length_cons, List.length_nil]
    show f.length + ((Part.text (.l u)).length + ((Part.text (.b c)).length + 0)) + 3 ≤ _
    omega
  | item n c =>
    have hb := btext_len c
    have hh := tot_head_tail (u := u) (by rw [hu]; exact Nat.succ_pos _)
    have ht := ltext_len u.tail
    simp only [Sim.asks, psum, List.map_cons, List.map_nil, List.sum_cons, List.sum_nil, List.length_cons, List.length_nil]
    show (u.headD _).length + ((Part.text (.l u.tail)).length + ((Part.text (.b c)).length + 0)) + 3 ≤ _
    omega
theorem ask_word {o : Sim} {u : List Str} : (o.asks u).1.length ≤ 20 ∧ sOk (o.asks u).1 ∧ (Txt.slice (o.asks u).1 none (some 1)).length ≤ 1 := by
  cases o <;> (simp only [Sim.asks]; exact ⟨by decide +kernel, by decide +kernel, by decide +kernel⟩)
theorem ask_ok {o : Sim} {u : List Str} (hk : o.ok = true) (hu : ∀ x ∈ u, sOk x) : ∀ p ∈ (o.asks u).2, partOk p ∧ ∀ n, p ≠ .i n := by
  have hs : ∀ p ∈ u.map Part.s, partOk p ∧ ∀ n, p ≠ .i n := fun p hp => by
    obtain ⟨x, hx, rfl⟩ := List.mem_map.mp hp
    exact ⟨hu x hx, fun n => by simp⟩
  have one : ∀ {x : Str}, sOk x → partOk (.s x) ∧ ∀ n, Part.s x ≠ .i n := fun h => ⟨h, fun n => by simp⟩
  have lst : ∀ {v : List Str}, (∀ x ∈ v, sOk x) → partOk (.l v) ∧ ∀ n, Part.l v ≠ .i n := fun h => ⟨h, fun n => by simp⟩
  have boo : ∀ {c : Bool}, partOk (.b c) ∧ ∀ n, Part.b c ≠ .i n := ⟨trivial, fun n => by simp⟩
  have hd : sOk (u.headD (Str.ofString "")) := by
    cases u with
    | nil => exact (by decide +kernel : sOk (Str.ofString ""))
    | cons a r => exact hu a (.head _)
  have tl : ∀ x ∈ u.tail, sOk x := fun x hx => hu x (List.mem_of_mem_tail hx)
  cases o with
  | push x => exact fun _ h => nomatch h
  | double => exact fun _ h => nomatch h
  | var x => exact List.forall_mem_cons.mpr ⟨one (short_ok hk).1, fun _ h => nomatch h⟩
  | ref x => exact List.forall_mem_cons.mpr ⟨one (short_ok hk).1, fun _ h => nomatch h⟩
  | kw x => exact List.forall_mem_cons.mpr ⟨one (short_ok hk).1, fun _ h => nomatch h⟩
  | del x => exact List.forall_mem_cons.mpr ⟨one (short_ok hk).1, fun _ h => nomatch h⟩
  | un x => exact List.forall_mem_cons.mpr ⟨one (short_ok hk).1, List.forall_mem_cons.mpr ⟨lst hu, fun _ h => nomatch h⟩⟩
  | bin x => exact List.forall_mem_cons.mpr ⟨one (short_ok hk).1, List.forall_mem_cons.mpr ⟨lst hu, fun _ h => nomatch h⟩⟩
  | join => exact List.forall_mem_cons.mpr ⟨one (by decide +kernel), List.forall_mem_cons.mpr ⟨lst hu, fun _ h => nomatch h⟩⟩
  | value => exact hs
  | indirect => exact hs
  | cursor => exact hs
  | given x => exact List.forall_mem_cons.mpr ⟨one (short_ok hk).1, hs⟩
  | call f n c =>
    simp only [Sim.ok, Bool.and_eq_true] at hk
    exact List.forall_mem_cons.mpr ⟨one (short_ok hk.1).1, List.forall_mem_cons.mpr ⟨lst hu, List.forall_mem_cons.mpr ⟨boo, fun _ h => nomatch h⟩⟩⟩
  | item n c => exact List.forall_mem_cons.mpr ⟨one hd, List.forall_mem_cons.mpr ⟨lst tl, List.forall_mem_cons.mpr ⟨boo, fun _ h => nomatch h⟩⟩⟩
theorem ask_fits {o : Sim} {u : List Str} (hu : tot u ≤ 125000) : ∀ p ∈ (o.asks u).2, p.fits := by
  have hs : ∀ p ∈ u.map Part.s, p.fits := fun p hp => by
    obtain ⟨x, hx, rfl⟩ := List.mem_map.mp hp
    exact trivial
  have lu : Part.fits (.l u) := by show (u.map (·.length)).sum + u.length * 64 ≤ 8000000; unfold tot at hu; omega
  have lt : Part.fits (.l u.tail) := by
    show (u.tail.map (·.length)).sum + u.tail.length * 64 ≤ 8000000
    cases u with
    | nil => exact Nat.le_of_ble_eq_true rfl
    | cons a r => simp [tot] at hu ⊢; omega
  cases o with
  | push x => exact fun _ h => nomatch h
  | double => exact fun _ h => nomatch h
  | var x => exact List.forall_mem_cons.mpr ⟨trivial, fun _ h => nomatch h⟩
  | ref x => exact List.forall_mem_cons.mpr ⟨trivial, fun _ h => nomatch h⟩
  | kw x => exact List.forall_mem_cons.mpr ⟨trivial, fun _ h => nomatch h⟩
  | del x => exact List.forall_mem_cons.mpr ⟨trivial, fun _ h => nomatch h⟩
  | un x => exact List.forall_mem_cons.mpr ⟨trivial, List.forall_mem_cons.mpr ⟨lu, fun _ h => nomatch h⟩⟩
  | bin x => exact List.forall_mem_cons.mpr ⟨trivial, List.forall_mem_cons.mpr ⟨lu, fun _ h => nomatch h⟩⟩
  | join => exact List.forall_mem_cons.mpr ⟨trivial, List.forall_mem_cons.mpr ⟨lu, fun _ h => nomatch h⟩⟩
  | value => exact hs
  | indirect => exact hs
  | cursor => exact hs
  | given x => exact List.forall_mem_cons.mpr ⟨trivial, hs⟩
  | call f n c => exact List.forall_mem_cons.mpr ⟨trivial, List.forall_mem_cons.mpr ⟨lu, List.forall_mem_cons.mpr ⟨trivial, fun _ h => nomatch h⟩⟩⟩
  | item n c => exact List.forall_mem_cons.mpr ⟨trivial, List.forall_mem_cons.mpr ⟨lt, List.forall_mem_cons.mpr ⟨trivial, fun _ h => nomatch h⟩⟩⟩
theorem ask_read {o : Sim} {u : List Str} (h : (o.asks u).1 = Str.ofString "read") : ∃ x r, (o.asks u).2 = .s x :: r := by
  cases o with
  | var x => exact ⟨x, [], rfl⟩
  | _ => exact absurd h (by simp only [Sim.asks]; decide)
theorem ask_short {o : Sim} {u : List Str} (hq : o.quiet = false) (hk : o.ok = true) (hu : u.length = o.many) : (o.asks u).2.length ≤ 20 := by
  cases o with
  | value => show (u.map Part.s).length ≤ 20; rw [List.length_map, hu]; exact Nat.le_of_ble_eq_true rfl
  | indirect => show (u.map Part.s).length ≤ 20; rw [List.length_map, hu]; exact Nat.le_of_ble_eq_true rfl
  | cursor => show (u.map Part.s).length ≤ 20; rw [List.length_map, hu]; exact Nat.le_of_ble_eq_true rfl
  | given x => show (u.map Part.s).length + 1 ≤ 20; rw [List.length_map, hu]; exact Nat.le_of_ble_eq_true rfl
  | _ => exact Nat.le_of_ble_eq_true rfl
theorem ask_said {o : Sim} {u : List Str} (hq : o.quiet = false) (hk : o.ok = true) (hu : u.length = o.many) (ht : tot u ≤ 125000) : SaidOk (o.asks u).1 (o.asks u).2 :=
  ⟨ask_word.1, ask_read, fun h => absurd h asks_ne, ask_fits ht, by have := ask_size hq hk hu; show psum _ ≤ _; omega, ask_short hq hk hu⟩
theorem said_len {o : Sim} {u : List Str} (hq : o.quiet = false) (hk : o.ok = true) (hu : u.length = o.many) : (saidT (o.asks u).1 (o.asks u).2).length + 1 ≤ tot u + 30 := by
  have h1 := ask_size hq hk hu
  have h2 := (ask_word (o := o) (u := u)).2.2
  have h3 := join_length_le' (Str.ofString ",") ((o.asks u).2.map Part.text) (by decide)
  rw [List.length_map] at h3
  unfold saidT
  rw [Str.length_append, Str.length_append, Str.length_append]
  show _ + 1 + _ + 1 + 1 ≤ _
  have h4 : ((List.map Part.text (o.asks u).2).map (·.length)).sum = psum (o.asks u).2 := rfl
  omega

/-- what a plain order leaves -/
structure Leaves (o : Sim) (st : List Str) (ns : List Note) : Prop where
  some_ : ∀ st', (step o st ns).1 = some st' → ∃ y, st' = base o st ++ [y] ∧ sOk y ∧ tot st' ≤ 2 * tot st + 30
  notes : ∀ n ∈ (step o st ns).2, n ∈ ns ∨ noteOk n
  len : (step o st ns).2.length ≤ ns.length + 1
theorem getLastD_mem {α : Type} {xs : List α} {d : α} (h : 0 < xs.length) : xs.getLastD d ∈ xs := by
  rcases List.eq_nil_or_concat xs with rfl | ⟨bs, y, rfl⟩
  · cases h
  · simp [List.getLastD_eq_getLast?]
theorem mem_len {st : List Str} {x : Str} (h : x ∈ st) : x.length + 1 ≤ tot st := by
  induction st with
  | nil => cases h
  | cons a r ih =>
    have e : tot (a :: r) = a.length + 1 + tot r := by simp [tot]; omega
    rcases List.mem_cons.mp h with rfl | h
    · omega
    · have := ih h; omega
theorem leaves {o : Sim} {st : List Str} {ns : List Note} (hk : o.ok = true) (hn : o.need ≤ st.length) (hs : ∀ x ∈ st, sOk x) : Leaves o st ns := by
  rcases hq : o.quiet with _ | _
  · have hul := under_len hn
    have hus : ∀ x ∈ under o st, sOk x := fun x hx => hs x (List.mem_of_mem_drop hx)
    have ha := ask_ok hk hus
    have hb := tot_bu o st
    have hl := said_len hq hk hul
    refine ⟨fun st' e => ?_, fun n h => ?_, ?_⟩
    · rw [step_nq hq] at e
      obtain ⟨y, hy, rfl⟩ := Option.map_eq_some_iff.mp e
      unfold said at hy
      split at hy
      · cases hy
      · cases hy
        refine ⟨_, rfl, saidT_ok ask_word.2.1 ha, ?_⟩
        rw [tot_app, tot_one]; omega
    · rw [step_nq hq] at h
      rcases List.mem_append.mp h with h | h
      · exact .inl h
      · rcases List.mem_singleton.mp h with rfl
        exact .inr ⟨ask_word.2.1, fun p hp => (ha p hp).1⟩
    · rw [step_nq hq, List.length_append]; exact Nat.le_refl _
  · cases o with
    | push x =>
      refine ⟨fun st' e => ?_, fun n h => .inl h, Nat.le_succ _⟩
      cases e
      have := short_ok hk
      refine ⟨x, by simp [base, Sim.many], this.1, ?_⟩
      rw [tot_app, tot_one]; omega
    | double =>
      refine ⟨fun st' e => ?_, fun n h => .inl h, Nat.le_succ _⟩
      cases e
      have hm := getLastD_mem (d := Str.ofString "") (show 0 < st.length from hn)
      have := mem_len hm
      refine ⟨st.getLastD (Str.ofString ""), by simp [base, Sim.many], hs _ hm, ?_⟩
      rw [tot_app, tot_one]
      show tot st + ((st.getLastD (Str.ofString "")).length + 1) ≤ _
      omega
    | _ => cases hq

-- LVb
theorem step_some {o : Sim} {st st' : List Str} {ns : List Note} (e : (step o st ns).1 = some st') : ∃ y, st' = base o st ++ [y] := by
  cases o with
  | push x => cases e; exact ⟨x, by simp [base, Sim.many]⟩
  | double => cases e; exact ⟨st.getLastD (Str.ofString ""), by simp [base, Sim.many]⟩
  | _ =>
    simp only [step, Option.map_eq_some_iff] at e
    obtain ⟨y, _, rfl⟩ := e
    exact ⟨y, rfl⟩
theorem step_len {o : Sim} {st : List Str} {ns : List Note} : (step o st ns).2.length ≤ ns.length + 1 := by
  cases o <;> first | exact Nat.le_succ _ | (simp only [step, List.length_append]; exact Nat.le_refl _)
theorem okB_cons {d : Nat} {o : Ord} {r : List Ord} {h h' : Nat} (e : okB d (o :: r) h = some h') : ∃ h1, okO d o h = some h1 ∧ okB d r h1 = some h' := by
  rw [okB] at e; exact Option.bind_eq_some_iff.mp e
theorem okO_sim {d : Nat} {o : Sim} {h h1 : Nat} (e : okO d (.sim o) h = some h1) : o.ok = true ∧ o.need ≤ h ∧ h1 = h - o.many + 1 := by
  rw [okO] at e
  split at e
  · rename_i q; cases e; exact ⟨q.1, q.2, rfl⟩
  · cases e
theorem okO_not {d : Nat} {b : List Ord} {h h1 : Nat} (e : okO d (.not b) h = some h1) : ∃ d2 h2, d = d2 + 1 ∧ b.length ≤ 5 ∧ okB d2 b 0 = some h2 ∧ h1 = h + 1 := by
  cases d with
  | zero => rw [okO] at e; cases e
  | succ d =>
    rw [okO] at e
    split at e
    · rename_i q
      obtain ⟨h2, a, rfl⟩ := Option.map_eq_some_iff.mp e
      exact ⟨d, h2, rfl, q, a, rfl⟩
    · cases e
theorem many_le {o : Sim} {h : Nat} (k : o.need ≤ h) : o.many ≤ h := Nat.le_trans many_need k
theorem goes_len : ∀ (n : Nat) (b : List Ord) (st : List Str) (ns : List Note), (flatB b).length ≤ n → (goesB b st ns).2.length ≤ ns.length + (flatB b).length := by
  intro n
  induction n using Nat.strongRecOn with
  | ind n ih =>
  intro b
  induction b with
  | nil => intro st ns _; exact Nat.le_refl _
  | cons o r ihb =>
    intro st ns hn
    rw [flatB, List.length_append] at hn
    have ho : (goesO o st ns).2.length ≤ ns.length + (flatO o).length := by
      cases o with
      | sim o => exact step_len
      | not b2 =>
        rw [flatO] at hn ⊢
        simp only [List.length_append, List.length_cons, List.length_nil] at hn ⊢
        have := ih (flatB b2).length (by omega) b2 st ns (Nat.le_refl _)
        rw [goesO]
        rcases hq : goesB b2 st ns with ⟨_ | st2, ns2⟩ <;> (rw [hq] at this; dsimp only at this ⊢; omega)
    rw [flatB, List.length_append, goesB]
    rcases hq : goesO o st ns with ⟨_ | st2, ns2⟩
    · rw [hq] at ho; dsimp only at ho ⊢; omega
    · rw [hq] at ho
      have := ihb st2 ns2 (by omega)
      dsimp only at ho ⊢; omega
theorem take_app_take {a b : List Str} {m : Nat} (h : m ≤ b.length) : (a ++ b).take ((a ++ b).length - m) = a ++ b.take (b.length - m) := by
  rw [List.length_append, show a.length + b.length - m = a.length + (b.length - m) by omega, List.take_length_add_append]
theorem goes_pre (d : Nat) : ∀ (b : List Ord) (st0 t : List Str) (ns : List Note) (h' : Nat), okB d b t.length = some h' → ∀ st', (goesB b (st0 ++ t) ns).1 = some st' → ∃ t', st' = st0 ++ t' ∧ t'.length = h' := by
  intro b
  induction b with
  | nil => intro st0 t ns h' e st' q; cases q; rw [okB] at e; cases e; exact ⟨t, rfl, rfl⟩
  | cons o r ih =>
    intro st0 t ns h' e st' q
    obtain ⟨h1, e1, e2⟩ := okB_cons e
    rw [goesB] at q
    rcases hq : goesO o (st0 ++ t) ns with ⟨_ | st1, ns1⟩
    · rw [hq] at q; cases q
    · rw [hq] at q
      have : ∃ t1, st1 = st0 ++ t1 ∧ t1.length = h1 := by
        cases o with
        | sim o =>
          obtain ⟨k1, k2, rfl⟩ := okO_sim e1
          have hq' : step o (st0 ++ t) ns = (some st1, ns1) := hq
          obtain ⟨y, rfl⟩ := step_some (o := o) (st := st0 ++ t) (ns := ns) (st' := st1) (by rw [hq'])
          refine ⟨t.take (t.length - o.many) ++ [y], ?_, ?_⟩
          · unfold base; rw [take_app_take (many_le k2), List.append_assoc]
          · rw [List.length_append, List.length_take]; simp
        | not b2 =>
          obtain ⟨d2, h2, rfl, _, _, rfl⟩ := okO_not e1
          rw [goesO] at hq
          rcases hq2 : goesB b2 (st0 ++ t) ns with ⟨_ | st2, ns2⟩
          · rw [hq2] at hq
            simp only [Prod.mk.injEq, Option.some.injEq] at hq
            exact ⟨t ++ [Str.ofString ""], by rw [← hq.1, List.append_assoc], by simp⟩
          · rw [hq2] at hq; simp at hq
      obtain ⟨t1, rfl, rfl⟩ := this
      exact ih st0 t1 ns1 h' e2 st' q
/-- where a failing order goes on -/
noncomputable def FailK (fs : List FO) (gs : List (Nat × Nat)) (f : Option Int) (st0 : List Str) (ns' : List Note) (r : Option (List Str × List (Nat × Nat))) (nsF : List Note) : Prop :=
  (gs = [] ∧ r = none ∧ nsF = ns') ∨ ∃ gs0 p, gs = gs0 ++ [(p, st0.length)] ∧ Runs fs p st0 gs0 f ns' r nsF
theorem at_pre {fs pre rest : List FO} {x : FO} {n : Nat} (e : fs = pre ++ x :: rest) (hn : n = pre.length) : fs[n]? = some x := by
  subst e; subst hn; simp
theorem fits_len {o : Sim} {st : List Str} {ns : List Note} (h : Fits o st ns) : o.many ≤ st.length := Nat.le_trans many_need h.need
theorem fit_push {x : Str} {st : List Str} {ns : List Note} (h1 : st.length ≤ 900) (h2 : ns.length ≤ 80000) : Fits (.push x) st ns := ⟨Nat.zero_le _, h1, h2, fun q => by cases q⟩
theorem runs_block (fs : List FO) (f : Option Int) (d : Nat) : ∀ (b : List Ord) (pre post : List FO) (st0 t : List Str) (ns : List Note) (h' : Nat) (gs : List (Nat × Nat)) (r : Option (List Str × List (Nat × Nat))) (nsF : List Note),
    fs = pre ++ flatB b ++ post → okB d b t.length = some h' → SafeB d b (st0 ++ t) ns → ns.length + (flatB b).length ≤ 70000 → (st0 ++ t).length + (flatB b).length ≤ 800 → gs.length + d ≤ 800 →
    (∀ st' ns', goesB b (st0 ++ t) ns = (some st', ns') → Runs fs (pre.length + (flatB b).length) st' gs f ns' r nsF) →
    (∀ ns', goesB b (st0 ++ t) ns = (none, ns') → FailK fs gs f st0 ns' r nsF) → Runs fs pre.length (st0 ++ t) gs f ns r nsF := by
  induction d using Nat.strongRecOn with
  | ind d ih =>
  intro b
  induction b with
  | nil => intro pre post st0 t ns h' gs r nsF e1 e2 e3 e4 e5 e6 hS hN; exact hS _ _ rfl
  | cons o rest ihb =>
    intro pre post st0 t ns h' gs r nsF e1 e2 e3 e4 e5 e6 hS hN
    obtain ⟨h1, o1, o2⟩ := okB_cons e2
    have eS : (flatB (o :: rest)).length = (flatO o).length + (flatB rest).length := by rw [flatB, List.length_append]
    rw [eS] at e4 e5
    obtain ⟨s1, s2⟩ := e3
    cases o with
    | sim o =>
      obtain ⟨k1, k2, rfl⟩ := okO_sim o1
      have fit : Fits o (st0 ++ t) ns := s1
      have hat : fs[pre.length]? = some (.sim o) := at_pre (rest := flatB rest ++ post) (by rw [e1, flatB, flatO]; simp) rfl
      have hf1 : (flatO (.sim o)).length = 1 := rfl
      have hm := many_le k2
      rcases hs : step o (st0 ++ t) ns with ⟨_ | st1, ns1⟩
      · have hg : goesB (.sim o :: rest) (st0 ++ t) ns = (none, ns1) := goesB_cons_none hs
        rcases hN ns1 hg with ⟨rfl, rfl, rfl⟩ | ⟨gs0, p, rfl, hR⟩
        · exact .bad0 hat fit hs
        · refine .badG hat fit hs (by rw [List.length_append] at e6; omega) ?_
          have : (base o (st0 ++ t)).take st0.length = st0 := by
            unfold base; rw [take_app_take hm, List.take_left]
          rw [this]; exact hR
      · obtain ⟨y, hy⟩ := step_some (o := o) (st := st0 ++ t) (ns := ns) (st' := st1) (by rw [hs])
        have hy2 : st1 = st0 ++ (t.take (t.length - o.many) ++ [y]) := by
          rw [hy]; unfold base; rw [take_app_take hm, List.append_assoc]
        have hl : ns1.length ≤ ns.length + 1 := by have := step_len (o := o) (st := st0 ++ t) (ns := ns); rw [hs] at this; exact this
        subst hy2
        have hg : ∀ x, goesB rest (st0 ++ (t.take (t.length - o.many) ++ [y])) ns1 = x → goesB (.sim o :: rest) (st0 ++ t) ns = x := fun x q => (goesB_cons_some (show goesO (.sim o) _ _ = _ from hs)).trans q
        refine .ok hat fit (by omega) hs ?_
        have := ihb (pre ++ [.sim o]) post st0 (t.take (t.length - o.many) ++ [y]) ns1 h' gs r nsF (by rw [e1, flatB, flatO]; simp) (by rw [List.length_append, List.length_take]; simpa using o2)
          (by have q := s2 (st0 ++ (t.take (t.length - o.many) ++ [y])) (by rw [show goesO (.sim o) (st0 ++ t) ns = step o (st0 ++ t) ns from rfl, hs]); rw [show goesO (.sim o) (st0 ++ t) ns = step o (st0 ++ t) ns from rfl, hs] at q; exact q) (by omega)
          (by simp only [List.length_append, List.length_take, List.length_cons, List.length_nil] at e5 ⊢; omega) e6
          (fun st' ns' q => by have := hS st' ns' (hg _ q); rw [eS, hf1] at this; simpa [List.length_append, Nat.add_assoc] using this) (fun ns' q => hN ns' (hg _ q))
        simpa [List.length_append] using this
    | not b2 =>
      obtain ⟨d2, h2, rfl, hb5, o3, rfl⟩ := okO_not o1
      obtain ⟨q1, q2, q3⟩ := s1
      have hf1 : (flatO (.not b2)).length = (flatB b2).length + 4 := by rw [flatO]; simp only [List.length_append, List.length_cons, List.length_nil]; omega
      rw [hf1] at e4 e5 eS
      have efs : fs = pre ++ .guard ((flatB b2).length + 3) :: (flatB b2 ++ (.unguard :: .fail :: .sim (.push (Str.ofString "")) :: (flatB rest ++ post))) := by rw [e1, flatB, flatO]; simp
      have a1 : fs[pre.length]? = some (.guard ((flatB b2).length + 3)) := at_pre efs rfl
      have a2 : fs[pre.length + 1 + (flatB b2).length]? = some .unguard := at_pre (pre := pre ++ .guard ((flatB b2).length + 3) :: flatB b2) (rest := .fail :: .sim (.push (Str.ofString "")) :: (flatB rest ++ post)) (by rw [efs]; simp) (by simp; omega)
      have a3 : fs[pre.length + 1 + (flatB b2).length + 1]? = some .fail := at_pre (pre := pre ++ .guard ((flatB b2).length + 3) :: (flatB b2 ++ [.unguard])) (rest := .sim (.push (Str.ofString "")) :: (flatB rest ++ post)) (by rw [efs]; simp) (by simp; omega)
      have a4 : fs[pre.length + ((flatB b2).length + 3)]? = some (.sim (.push (Str.ofString ""))) := at_pre (pre := pre ++ .guard ((flatB b2).length + 3) :: (flatB b2 ++ [.unguard, .fail])) (rest := flatB rest ++ post) (by rw [efs]; simp) (by simp)
      have hl2 := goes_len _ b2 (st0 ++ t) ns (Nat.le_refl _)
      refine .guard a1 (by omega) (by omega) ?_
      have inner := ih d2 (Nat.lt_succ_self d2) b2 (pre ++ [.guard ((flatB b2).length + 3)]) (.unguard :: .fail :: .sim (.push (Str.ofString "")) :: (flatB rest ++ post)) (st0 ++ t) [] ns h2 (gs ++ [(pre.length + ((flatB b2).length + 3), (st0 ++ t).length)]) r nsF
        (by rw [efs]; simp) o3 (by rw [List.append_nil]; exact q3) (by omega) (by rw [List.append_nil]; omega) (by rw [List.length_append]; simp; omega)
      rw [List.append_nil] at inner
      have := inner (fun st2 ns2 hg2 => ?_) (fun ns2 hg2 => ?_)
      · simpa [List.length_append] using this
      · -- the block within comes through: the order fails
        rw [hg2] at hl2
        obtain ⟨t2, rfl, ht2⟩ := goes_pre d2 b2 (st0 ++ t) [] ns h2 o3 st2 (by rw [List.append_nil, hg2])
        have hh2 : h2 ≤ (flatB b2).length := by
          have : ∀ (d : Nat) (b : List Ord) (h h' : Nat), okB d b h = some h' → h' ≤ h + (flatB b).length := by
            intro d b
            induction b with
            | nil => intro h h' e; rw [okB] at e; cases e; omega
            | cons o r ih =>
              intro h h' e
              obtain ⟨h1, e1, e2⟩ := okB_cons e
              have := ih _ _ e2
              rw [flatB, List.length_append]
              cases o with
              | sim o => obtain ⟨_, _, rfl⟩ := okO_sim e1; have : (flatO (.sim o)).length = 1 := rfl; omega
              | not b2 => obtain ⟨_, _, rfl, _, _, rfl⟩ := okO_not e1; have : (flatO (.not b2)).length = (flatB b2).length + 4 := by rw [flatO]; simp only [List.length_append, List.length_cons, List.length_nil]; omega
                          omega
          have := this _ _ _ _ o3
          simpa using this
        have hlen : ((st0 ++ t) ++ t2).length ≤ 900 := by rw [List.length_append, ht2]; omega
        have hg : goesB (.not b2 :: rest) (st0 ++ t) ns = (none, ns2) := by
          have := goesB_not_t (b := b2) (r := rest) (st := st0 ++ t) (ns := ns) (by rw [hg2]; rfl)
          rw [this, hg2]
        have e9 : (pre ++ [FO.guard ((flatB b2).length + 3)]).length + (flatB b2).length = pre.length + 1 + (flatB b2).length := by simp
        rw [e9]
        refine .unguard a2 hlen (by omega) ?_
        rcases hN ns2 hg with ⟨rfl, rfl, rfl⟩ | ⟨gs0, p, rfl, hR⟩
        · exact .fail0 a3 hlen
        · refine .failG a3 hlen (by rw [List.length_append] at e6; omega) ?_
          rw [List.append_assoc, List.take_left]; exact hR
      · -- the block within fails: the order leaves the empty text
        rw [hg2] at hl2
        refine .inr ⟨gs, _, rfl, ?_⟩
        have hgo : goesO (.not b2) (st0 ++ t) ns = (some ((st0 ++ t) ++ [Str.ofString ""]), ns2) := by
          have := goesO_not_f (b := b2) (st := st0 ++ t) (ns := ns) (by rw [hg2]; rfl)
          rw [this, hg2]
        have hg : ∀ x, goesB rest ((st0 ++ t) ++ [Str.ofString ""]) ns2 = x → goesB (.not b2 :: rest) (st0 ++ t) ns = x := fun x q => (goesB_cons_some hgo).trans q
        refine .ok a4 (fit_push (by omega) (by dsimp only at hl2; omega)) (by omega) rfl ?_
        have hsafe := s2 ((st0 ++ t) ++ [Str.ofString ""]) (by rw [hgo])
        rw [hgo] at hsafe
        dsimp only at hl2
        have := ihb (pre ++ .guard ((flatB b2).length + 3) :: (flatB b2 ++ [.unguard, .fail, .sim (.push (Str.ofString ""))])) post st0 (t ++ [Str.ofString ""]) ns2 h' gs r nsF (by rw [efs]; simp) (by rw [List.length_append]; exact o2)
          (by rw [← List.append_assoc]; exact hsafe) (by omega) (by simp only [List.length_append, List.length_cons, List.length_nil] at e5 ⊢; omega) e6
          (fun st' ns' q => by
            have := hS st' ns' (hg _ (by rw [List.append_assoc]; exact q)); rw [eS] at this
            have e8 : (pre ++ FO.guard ((flatB b2).length + 3) :: (flatB b2 ++ [.unguard, .fail, .sim (.push (Str.ofString ""))])).length + (flatB rest).length = pre.length + ((flatB b2).length + 4 + (flatB rest).length) := by simp; omega
            rw [e8]; exact this)
          (fun ns' q => hN ns' (hg _ (by rw [List.append_assoc]; exact q)))
        have e8 : (pre ++ FO.guard ((flatB b2).length + 3) :: (flatB b2 ++ [.unguard, .fail, .sim (.push (Str.ofString ""))])).length = pre.length + ((flatB b2).length + 3) + 1 := by simp; omega
        rw [e8, ← List.append_assoc] at this
        exact this
theorem tot_ge (st : List Str) : st.length ≤ tot st := Nat.le_add_left _ _
theorem pow_le {k : Nat} (h : k ≤ 12) : 30 * 2 ^ k ≤ 122880 := by
  have : 2 ^ k ≤ 2 ^ 12 := Nat.pow_le_pow_right (by decide) h
  have e : (2 : Nat) ^ 12 = 4096 := by decide
  omega
/-- what a drawn block does stays small -/
theorem goes_facts (d : Nat) : ∀ (b : List Ord) (st : List Str) (ns : List Note) (h h' k : Nat), okB d b h = some h' → h ≤ st.length → (∀ x ∈ st, sOk x) → (∀ n ∈ ns, noteOk n) → tot st + 30 ≤ 30 * 2 ^ k → st.length ≤ k → k + b.length + 4 * d ≤ 13 → ns.length + (flatB b).length ≤ 70000 →
    SafeB d b st ns ∧ (∀ n ∈ (goesB b st ns).2, noteOk n) ∧ ∀ st', (goesB b st ns).1 = some st' → (∀ x ∈ st', sOk x) ∧ tot st' + 30 ≤ 30 * 2 ^ (k + b.length) ∧ st'.length ≤ k + b.length := by
  induction d using Nat.strongRecOn with
  | ind d ih =>
  intro b
  induction b with
  | nil =>
    intro st ns h h' k e1 e2 e3 e4 e5 e6 e7 e8
    refine ⟨trivial, e4, fun st' q => ?_⟩
    cases q
    exact ⟨e3, e5, e6⟩
  | cons o rest ihb =>
    intro st ns h h' k e1 e2 e3 e4 e5 e6 e7 e8
    obtain ⟨h1, o1, o2⟩ := okB_cons e1
    have eS : (flatB (o :: rest)).length = (flatO o).length + (flatB rest).length := by rw [flatB, List.length_append]
    rw [eS] at e8
    rw [List.length_cons] at e7
    have hpow := pow_le (k := k) (by omega)
    have hpos : 1 ≤ 2 ^ k := Nat.one_le_two_pow
    have hdbl : 30 * 2 ^ (k + 1) = 2 * (30 * 2 ^ k) := by rw [Nat.pow_succ]; omega
    have key : SafeO d o st ns ∧ (∀ n ∈ (goesO o st ns).2, noteOk n) ∧ (goesO o st ns).2.length ≤ ns.length + (flatO o).length ∧ ∀ st1, (goesO o st ns).1 = some st1 → (∀ x ∈ st1, sOk x) ∧ tot st1 + 30 ≤ 30 * 2 ^ (k + 1) ∧ st1.length ≤ k + 1 ∧ h1 ≤ st1.length := by
      cases o with
      | sim o =>
        obtain ⟨k1, k2, rfl⟩ := okO_sim o1
        have hn : o.need ≤ st.length := Nat.le_trans k2 e2
        have hm := many_le hn
        have L := leaves (ns := ns) k1 hn e3
        have hbu := tot_bu o st
        refine ⟨⟨hn, by omega, by omega, fun hq => ask_said hq k1 (under_len hn) (by omega)⟩, fun n q => (L.notes n q).elim (e4 n) id, L.len, fun st1 q => ?_⟩
        obtain ⟨y, rfl, hy, ht⟩ := L.some_ st1 q
        have hbl := base_len hn
        refine ⟨fun x hx => ?_, by rw [hdbl]; omega, by rw [List.length_append, hbl]; simp; omega, by rw [List.length_append, hbl]; simp; omega⟩
        rcases List.mem_append.mp hx with hx | hx
        · exact e3 x (List.mem_of_mem_take hx)
        · rcases List.mem_singleton.mp hx with rfl; exact hy
      | not b2 =>
        obtain ⟨d2, h2, rfl, hb5, o3, rfl⟩ := okO_not o1
        have hf1 : (flatO (.not b2)).length = (flatB b2).length + 4 := by rw [flatO]; simp only [List.length_append, List.length_cons, List.length_nil]; omega
        rw [hf1] at e8
        obtain ⟨a1, a2, a3⟩ := ih d2 (Nat.lt_succ_self d2) b2 st ns 0 h2 k o3 (Nat.zero_le _) e3 e4 e5 e6 (by omega) (by omega)
        have hl := goes_len _ b2 st ns (Nat.le_refl _)
        refine ⟨⟨by omega, by omega, a1⟩, ?_, ?_, ?_⟩
        · rw [goesO]
          rcases hq : goesB b2 st ns with ⟨_ | st2, ns2⟩ <;> (rw [hq] at a2; exact a2)
        · rw [goesO, hf1]
          rcases hq : goesB b2 st ns with ⟨_ | st2, ns2⟩ <;> (rw [hq] at hl; dsimp only at hl ⊢; omega)
        · intro st1 q
          rw [goesO] at q
          rcases hq : goesB b2 st ns with ⟨_ | st2, ns2⟩
          · rw [hq] at q
            cases q
            refine ⟨fun x hx => ?_, ?_, by rw [List.length_append]; simp; omega, by rw [List.length_append]; simp; omega⟩
            · rcases List.mem_append.mp hx with hx | hx
              · exact e3 x hx
              · rcases List.mem_singleton.mp hx with rfl; decide +kernel
            · rw [tot_app, tot_one, hdbl]
              show tot st + (0 + 1) + 30 ≤ _
              omega
          · rw [hq] at q; cases q
    obtain ⟨c1, c2, c3, c4⟩ := key
    rcases hq : goesO o st ns with ⟨_ | st1, ns1⟩
    · rw [hq] at c2
      refine ⟨⟨c1, fun st' q => by rw [hq] at q; cases q⟩, ?_, ?_⟩
      · rw [goesB_cons_none hq]; exact c2
      · intro st' q; rw [goesB_cons_none hq] at q; cases q
    · obtain ⟨p1, p2, p3, p4⟩ := c4 st1 (by rw [hq])
      rw [hq] at c2 c3
      obtain ⟨r1, r2, r3⟩ := ihb st1 ns1 h1 h' (k + 1) o2 p4 p1 c2 p2 p3 (by omega) (by dsimp only at c3; omega)
      refine ⟨⟨c1, fun st' q => ?_⟩, ?_, ?_⟩
      · rw [hq] at q; cases q; rw [hq]; exact r1
      · rw [goesB_cons_some hq]; exact r2
      · intro st' q
        rw [goesB_cons_some hq] at q
        have := r3 st' q
        rw [List.length_cons, show k + (rest.length + 1) = k + 1 + rest.length by omega]
        exact this
theorem dep_of_ok (d : Nat) : ∀ (b : List Ord) (h h' : Nat), okB d b h = some h' → depB d b := by
  induction d using Nat.strongRecOn with
  | ind d ih =>
  intro b
  induction b with
  | nil => intro h h' _; exact trivial
  | cons o rest ihb =>
    intro h h' e
    obtain ⟨h1, o1, o2⟩ := okB_cons e
    refine ⟨?_, ihb _ _ o2⟩
    cases o with
    | sim o => cases d <;> exact trivial
    | not b2 =>
      obtain ⟨d2, h2, rfl, _, o3, _⟩ := okO_not o1
      exact ih d2 (Nat.lt_succ_self d2) b2 _ _ o3
noncomputable def flN : Nat → Nat
  | 0 => 1
  | d + 1 => 5 * flN d + 4
theorem flN_pos (d : Nat) : 1 ≤ flN d := by cases d <;> simp [flN]
theorem flat_len (d : Nat) : ∀ (b : List Ord) (h h' : Nat), okB d b h = some h' → (flatB b).length ≤ b.length * flN d := by
  induction d using Nat.strongRecOn with
  | ind d ih =>
  intro b
  induction b with
  | nil => intro h h' _; exact Nat.zero_le _
  | cons o rest ihb =>
    intro h h' e
    obtain ⟨h1, o1, o2⟩ := okB_cons e
    have hr := ihb _ _ o2
    rw [flatB, List.length_append, List.length_cons, Nat.succ_mul]
    have : (flatO o).length ≤ flN d := by
      cases o with
      | sim o => exact flN_pos d
      | not b2 =>
        obtain ⟨d2, h2, rfl, hb5, o3, _⟩ := okO_not o1
        have h3 := ih d2 (Nat.lt_succ_self d2) b2 _ _ o3
        have h4 : b2.length * flN d2 ≤ 5 * flN d2 := Nat.mul_le_mul_right _ hb5
        rw [flatO, flN]
        simp only [List.length_append, List.length_cons, List.length_nil]
        omega
    omega
/-- a drawn block: all that its walk asks -/
theorem drawn_all {b : List Ord} {h' : Nat} (e : okB 2 b 0 = some h') (hl : b.length ≤ 5) :
    b.length ≤ 1000 ∧ SafeB 2 b [] [] ∧ depB 2 b ∧ (flatB b).length ≤ 50000 ∧ Runs (flatB b) 0 [] [] none [] ((goesB b [] []).1.map fun st => (st, [])) (goesB b [] []).2 ∧
      (∀ n ∈ (goesB b [] []).2, noteOk n) ∧ (∀ st, (goesB b [] []).1 = some st → ∀ x ∈ st, sOk x) := by
  have h1 := flat_len 2 b _ _ e
  have h2 : b.length * flN 2 ≤ 5 * flN 2 := Nat.mul_le_mul_right _ hl
  have h3 : flN 2 = 49 := rfl
  obtain ⟨f1, f2, f3⟩ := goes_facts 2 b [] [] 0 h' 0 e (Nat.le_refl _) (fun _ h => nomatch h) (fun _ h => nomatch h) (Nat.le_refl _) (Nat.le_refl _) (by omega) (by show 0 + _ ≤ _; omega)
  refine ⟨by omega, f1, dep_of_ok 2 b _ _ e, by omega, ?_, f2, fun st q => (f3 st q).1⟩
  refine runs_block (flatB b) none 2 b [] [] [] [] [] h' [] _ _ (by simp) e f1 (by show 0 + _ ≤ _; omega) (by show 0 + _ ≤ _; omega) (by decide) (fun st' ns' q => ?_) (fun ns' q => ?_)
  · rw [show ([] : List Str) ++ [] = [] from rfl] at q
    rw [q]
    exact .done (by simp)
  · rw [show ([] : List Str) ++ [] = [] from rfl] at q
    rw [q]
    exact .inl ⟨rfl, rfl, rfl⟩

-- LVc
noncomputable abbrev sV : Str := Str.ofString "v(X)"
noncomputable abbrev sW : Str := Str.ofString "v(v(X))"
noncomputable abbrev sR : Str := Str.ofString "r(U)"
noncomputable def fsT (p : Str) : List FO := [.sim (.ref "X"), .sim .double, .sim .value, .sim (.push p), .mat, .sim (.var "U"), .rep]
noncomputable def fsF (p : Str) : List FO := [.sim (.ref "X"), .sim (.push p), .asg]
noncomputable abbrev nVar : Note := (Str.ofString "var", [.s (Str.ofString "X")])
noncomputable abbrev nVal : Note := (Str.ofString "value", [.s sV])
noncomputable abbrev nMat (p : Str) : Note := (Str.ofString "match", [.s sW, .s p])
noncomputable abbrev nRead : Note := (Str.ofString "read", [.s (Str.ofString "U")])
noncomputable abbrev nRep : Note := (Str.ofString "replace", [.s sV, .i 7, .s sR])
noncomputable abbrev nAsg (p : Str) : Note := (Str.ofString "assign", [.s sV, .s p])
theorem said_var : said (Str.ofString "var") [.s (Str.ofString "X")] = some sV := by
  have h : saidT (Str.ofString "var") [.s (Str.ofString "X")] = sV := by decide +kernel
  unfold said; rw [if_neg (by decide +kernel), h]
theorem said_val : said (Str.ofString "value") [.s sV] = some sW := by
  have h : saidT (Str.ofString "value") [.s sV] = sW := by decide +kernel
  unfold said; rw [if_neg (by decide +kernel), h]
theorem said_read : said (Str.ofString "read") [.s (Str.ofString "U")] = some sR := by
  have h : saidT (Str.ofString "read") [.s (Str.ofString "U")] = sR := by decide +kernel
  unfold said; rw [if_neg (by decide +kernel), h]
theorem fit_small {o : Sim} {st : List Str} {ns : List Note} (hk : o.ok = true) (hn : o.need ≤ st.length) (ht : tot st ≤ 200) (hm : ns.length ≤ 100) : Fits o st ns := by
  have := tot_bu o st
  have := tot_ge st
  exact ⟨hn, by omega, by omega, fun hq => ask_said hq hk (under_len hn) (by omega)⟩
theorem saidOk_m {p : Str} (hp : p.length ≤ 10) : SaidOk (Str.ofString "match") [.s sW, .s p] := by
  have e : sW.length = 7 := by decide +kernel
  refine ⟨by decide +kernel, fun h => absurd h (by decide), fun _ => ⟨sW, p, rfl, by omega⟩, ?_, ?_, Nat.le_of_ble_eq_true rfl⟩
  · exact List.forall_mem_cons.mpr ⟨trivial, List.forall_mem_cons.mpr ⟨trivial, fun _ h => nomatch h⟩⟩
  · show sW.length + (p.length + 0) ≤ _; omega
theorem saidOk_a {p : Str} (hp : p.length ≤ 10) : SaidOk (Str.ofString "assign") [.s sV, .s p] := by
  have e : sV.length = 4 := by decide +kernel
  refine ⟨by decide +kernel, fun h => absurd h (by decide), fun h => absurd h (by decide), ?_, ?_, Nat.le_of_ble_eq_true rfl⟩
  · exact List.forall_mem_cons.mpr ⟨trivial, List.forall_mem_cons.mpr ⟨trivial, fun _ h => nomatch h⟩⟩
  · show sV.length + (p.length + 0) ≤ _; omega
theorem saidOk_r : SaidOk (Str.ofString "replace") [.s sV, .i 7, .s sR] := by
  refine ⟨by decide +kernel, fun h => absurd h (by decide), fun h => absurd h (by decide), ?_, ?_, Nat.le_of_ble_eq_true rfl⟩
  · exact List.forall_mem_cons.mpr ⟨trivial, List.forall_mem_cons.mpr ⟨(by show (7 : Int).natAbs < 1000000; decide), List.forall_mem_cons.mpr ⟨trivial, fun _ h => nomatch h⟩⟩⟩
  · decide +kernel
theorem ans_m (p : Str) : ans (Str.ofString "match") [.s sW, .s p] = if (7 + p.length) % 4 = 0 then .none else .i 7 := by
  have e : sW.length = 7 := by decide +kernel
  unfold ans
  rw [if_pos rfl]
  show (if (sW ++ p).length % 4 = 0 then Ans.none else .i sW.length) = _
  rw [Str.length_append, e]; rfl
section
variable {p : Str} (hp : p.length ≤ 10) (hk : short p = true)
include hp hk
theorem step_ref {ns : List Note} : step (.ref (Str.ofString "X")) [] ns = (some [sV], ns ++ [nVar]) := by
  show ((said _ _).map _, _) = _
  rw [show (Sim.asks (.ref (Str.ofString "X")) (under (.ref (Str.ofString "X")) [])).2 = [.s (Str.ofString "X")] from rfl, show (Sim.asks (.ref (Str.ofString "X")) (under (.ref (Str.ofString "X")) [])).1 = Str.ofString "var" from rfl, said_var]
  rfl
theorem pre4 {r : Option (List Str × List (Nat × Nat))} {ns' : List Note} (h : Runs (fsT p) 4 [sV, sW, p] [] none [nVar, nVal] r ns') : Runs (fsT p) 0 [] [] none [] r ns' := by
  have eV : sV.length = 4 := by decide +kernel
  have eW : sW.length = 7 := by decide +kernel
  refine .ok (o := .ref (Str.ofString "X")) rfl (fit_small (by decide +kernel) (Nat.le_refl _) (by decide) (by decide)) (by decide) (step_ref hp hk) ?_
  refine .ok (o := .double) (st' := [sV, sV]) (ns1 := [nVar]) rfl (fit_small rfl (Nat.le_refl _) (by decide +kernel) (by decide)) (by decide) rfl ?_
  refine .ok (o := .value) (st' := [sV, sW]) (ns1 := [nVar, nVal]) rfl (fit_small rfl (Nat.le_of_ble_eq_true rfl) (by decide +kernel) (by decide)) (by decide) ?_ ?_
  · show ((said _ _).map _, _) = _
    rw [show (Sim.asks .value (under .value [sV, sV])).2 = [.s sV] from rfl, show (Sim.asks .value (under .value [sV, sV])).1 = Str.ofString "value" from rfl, said_val]
    rfl
  exact .ok (o := .push p) (st' := [sV, sW, p]) (ns1 := [nVar, nVal]) rfl (fit_small hk (Nat.zero_le _) (by decide +kernel) (by decide)) (by decide) rfl h
theorem runsT0 (h0 : (7 + p.length) % 4 = 0) : Runs (fsT p) 0 [] [] none [] none [nVar, nVal, nMat p] := by
  refine pre4 hp hk ?_
  exact .mat0 (b := [sV]) (u := sW) (o := p) rfl (by decide) (by decide) (saidOk_m hp) (by rw [show ans "match" [.s sW, .s p] = _ from ans_m p, if_pos h0])
theorem runsT1 (h0 : ¬ (7 + p.length) % 4 = 0) : Runs (fsT p) 0 [] [] none [] (some ([], [])) [nVar, nVal, nMat p, nRead, nRep] := by
  refine pre4 hp hk ?_
  refine .mat (b := [sV]) (u := sW) (o := p) (n := 7) rfl (by decide) (by decide) (saidOk_m hp) (by rw [show ans "match" [.s sW, .s p] = _ from ans_m p, if_neg h0]) ?_
  refine .ok (o := .var (Str.ofString "U")) (st' := [sV, sR]) (ns1 := [nVar, nVal, nMat p, nRead]) rfl (fit_small (by decide +kernel) (Nat.zero_le _) (by decide +kernel) (by show 3 ≤ 100; decide)) (by decide) ?_ ?_
  · show ((said _ _).map _, _) = _
    rw [show (Sim.asks (.var (Str.ofString "U")) (under (.var (Str.ofString "U")) [sV])).2 = [.s (Str.ofString "U")] from rfl, show (Sim.asks (.var (Str.ofString "U")) (under (.var (Str.ofString "U")) [sV])).1 = Str.ofString "read" from rfl, said_read]
    rfl
  refine .rep (b := []) (u := sV) (o := sR) (n := 7) rfl (by decide) (by show 4 ≤ 80000; decide) saidOk_r ?_
  exact .done rfl
theorem runsF : Runs (fsF p) 0 [] [] none [] (some ([], [])) [nVar, nAsg p] := by
  refine .ok (o := .ref (Str.ofString "X")) rfl (fit_small (by decide +kernel) (Nat.le_refl _) (by decide) (by decide)) (by decide) (step_ref hp hk) ?_
  refine .ok (o := .push p) (st' := [sV, p]) (ns1 := [nVar]) rfl (fit_small hk (Nat.zero_le _) (by decide +kernel) (by decide)) (by decide) rfl ?_
  refine .asg (b := []) (u := sV) (o := p) rfl (by decide) (by show 1 ≤ 80000; decide) (saidOk_a hp) ?_
  exact .done rfl
end
theorem noteOk_lit {p : Str} (hk : short p = true) : noteOk nVar ∧ noteOk nVal ∧ noteOk (nMat p) ∧ noteOk nRead ∧ noteOk nRep ∧ noteOk (nAsg p) := by
  have hs := (short_ok hk).1
  have one : ∀ {x : Str}, sOk x → ∀ q ∈ ([.s x] : List Part), partOk q := fun h => List.forall_mem_cons.mpr ⟨h, fun _ h => nomatch h⟩
  have hw : sOk (Str.ofString "var") ∧ sOk (Str.ofString "value") ∧ sOk (Str.ofString "match") ∧ sOk (Str.ofString "read") ∧ sOk (Str.ofString "replace") ∧ sOk (Str.ofString "assign") := by decide +kernel
  refine ⟨⟨hw.1, one (by decide +kernel)⟩, ⟨hw.2.1, one (by decide +kernel)⟩, ⟨hw.2.2.1, ?_⟩, ⟨hw.2.2.2.1, one (by decide +kernel)⟩, ⟨hw.2.2.2.2.1, ?_⟩, ⟨hw.2.2.2.2.2, ?_⟩⟩
  · exact List.forall_mem_cons.mpr ⟨(by decide +kernel : sOk sW), one hs⟩
  · exact List.forall_mem_cons.mpr ⟨(by decide +kernel : sOk sV), List.forall_mem_cons.mpr ⟨trivial, one (by decide +kernel)⟩⟩
  · exact List.forall_mem_cons.mpr ⟨(by decide +kernel : sOk sV), one hs⟩
section
variable {prog : Program} {w : World} {K : Frag} {env : Env} {se s s' : Shared} {S S₀ : List Addr} {R₀ R R' : Imm} {l l' : List (Str × Option Value)} {led led' l1 l1' l2 : Ledger} {A : Around} {E : Value → Shared → Prop}
theorem eqNotes_ {n : Nat} {a b : Addr} {vs us : List Value} {k m : Nat} {ns : List Note} {Q : Value → Shared → Prop} (F : Fm K env se S R₀ R l led s) (hA : Rm n A) (ha : (a, listOf vs.toArray k) ∈ led) (hb : (b, listOf us.toArray m) ∈ led) (h1 : NotesR R vs ns) (h2 : NotesR R us ns) (hok : ∀ n ∈ ns, noteOk n)
    (h : Q (.bool true) s) : wpAny (model prog w) A (compareOp .Eq (.ref a) (.ref b)) Q E s := by
  obtain ⟨as, r1⟩ := h1.reads F.out.ok.sub
  obtain ⟨bs, r2⟩ := h2.reads F.out.ok.sub
  have hs := notes_shaped hok
  refine eq_dataH (reads_list_at (F.lgr.here _ ha) rfl rfl (by simpa using r1)) (reads_list_at (F.lgr.here _ hb) rfl rfl (by simpa using r2)) hs hs hA.eqRoom ?_
  rw [eqv_same hs]; exact h
theorem copyL_ {a : Addr} {its : Array Value} {Q : Value → Shared → Prop} (F : Fm K env se S R₀ R l led s) (hl : s.heap.IsList a its) (hz : its.size ≤ 100000)
    (h : ∀ D c s', Fm K env se S R₀ R l ((D, listOf its c) :: led) s' → se.heap.get? D = none → Q (.ref D) s') : wpAny (model prog w) A (call (.type "list") [.ref a]) Q E s := by
  obtain ⟨o, ho, hc, n, hd⟩ := hl
  obtain ⟨q1, q2, q3, q4⟩ := F.fresh (get_size (h := s.heap))
  exact call_list_seq (hsz := by rw [sizeLine_eq]; omega) a (.inl rfl) ho hc hd fun h' c' hk hD => h _ _ _ ((F.extH hk).addNew q1 q2 q3 q4 hD) q3
theorem Fm.abs (P : Imm → Prop) (F : Fm K env se S R₀ R l led s) (h : P R) : ∃ R2, P R2 ∧ Fm K env se S R₀ R2 l led s := ⟨R, h, F⟩
end

-- LSm
local macro_rules | `(tactic| k_inst) => `(tactic| ((rename Fm _ _ _ _ _ _ _ _ _ => F0); first
  | (refine' ldC_ F0 ?kk ?bb ?cc ?rr ?dd ?_; (case kk => with_reducible assumption); (case bb => decide); (case cc => with_reducible assumption); (case rr => with_reducible assumption); (case dd => with_reducible assumption))
  | (refine' ldF_ F0 ?kk ?bb ?nn ?cc ?rr ?dd ?_; (case kk => with_reducible assumption); (case bb => decide); (case nn => decide); (case cc => with_reducible assumption); (case rr => with_reducible assumption); (case dd => with_reducible assumption))))
noncomputable def posS : Pos := { line := 265, col := 48, endLine := 265, endCol := 97 }
section
variable {prog : Program} {w : World} {s : Shared} {R : Imm} {A : Around} {E : Value → Shared → Prop}
set_option maxHeartbeats 4000000 in
theorem same_ {bl : Addr} {bvs : List Value} {k : Nat} {b : List Ord} {ps : Array Value} {Q : Value → Shared → Prop} (hA : Rm 30 A) (O : Ok (hd.heap_1 w.params) R s) (hl : Led R [(317, tabObj ps)] s)
    (hbl : R bl = some (listOf bvs.toArray k)) (hB : OrdsR R bvs b) (hlen : b.length ≤ 1000) (hsafe : SafeB 2 b [] []) (hdep : depB 2 b) (hfl : (flatB b).length ≤ 50000)
    (hr : Runs (flatB b) 0 [] [] none [] ((goesB b [] []).1.map fun st => (st, [])) (goesB b [] []).2)
    (hok : ∀ n ∈ (goesB b [] []).2, noteOk n) (hsok : ∀ st, (goesB b [] []).1 = some st → ∀ x ∈ st, sOk x)
    (hT : TabI R posS "_law_same.<locals>.<lambda>" ps)
    (h : ∀ s' R' ps', Le R R' → Post (hd.heap_1 w.params) s [317] R R' [(317, tabObj ps')] s' → TabI R' posS "_law_same.<locals>.<lambda>" ps' → Q (.bool true) s') :
    wpAny (model prog w) A (call (.ref 322) [.ref bl]) Q E s := by
  refine' enterX_ (n := 29) ["block"] ["here", "stack", "is_well", "work"] "there" [("_law_goes", .ref 315), ("run_row", .ref 238), ("_law_flat", .ref 301), ("GivenHooks", .ref 227)] hA O hl ?ho ?hcd ?hc ?hcells ?hg ?hlen ?hbind ?_
  case ho => k_is
  case hcd => k_is
  case hc => decide +kernel
  case hcells => exact fun _ => rfl
  case hg => exact (List.forall_mem_cons.mpr ⟨gl_goes w, (List.forall_mem_cons.mpr ⟨gl_run_row w, (List.forall_mem_cons.mpr ⟨gl_flat w, (List.forall_mem_cons.mpr ⟨gl_GivenHooks w, (fun _ h => nomatch h)⟩)⟩)⟩)⟩)
  case hlen => rfl
  case hbind => rfl
  intro env ca oc s1 q1 q2 q3 q4 q5 q6 F G hA'
  simp only [l0, List.zip, List.zipWith, List.map, List.nil_append, List.cons_append] at F
  have hh := hA'.hd
  have q3' : env.cells.lookup (Str.ofString "there") = some ca := by rw [q3]; rfl
  repeat k_all
  rename Fm _ _ _ _ _ _ _ _ _ => F
  refine Assign_Tuple ?_ (by with_unfolding_all rfl) ?hw
  case hw =>
    have k1 : env.kindOf "here" = some .local := (F.kinds ("here", none) (.tail _ (.head _))).1
    have k3 : env.kindOf "stack" = some .local := (F.kinds ("stack", none) (.tail _ (.tail _ (.head _)))).1
    have kb : env.blockKind = .function := by unfold Env.blockKind; rw [F.kind]; rfl
    unfold swappedStores
    simp only [kb, k1, k3, q4, List.filterMap]
    with_unfolding_all rfl
  repeat k_all
  rename Fm _ _ _ _ _ _ _ _ _ => F; refine nl_ F ?_ (Nat.le_of_ble_eq_true rfl); clear F; intro here s_here F hn_here
  repeat k_all
  rename Fm _ _ _ _ _ _ _ _ _ => F; refine nl_ F ?_ (Nat.le_of_ble_eq_true rfl); clear F; intro there s_there F hn_there
  repeat k_all
  rename Fm _ _ _ _ _ _ _ _ _ => F; refine nl_ F ?_ (Nat.le_of_ble_eq_true rfl); clear F; intro st s_st F hn_st
  repeat k_all
  rename Fm _ _ _ _ _ _ _ _ _ => F; refine ntR_ F ?_ (Nat.le_of_ble_eq_true rfl); clear F; intro tp s_tp hR_tp F hn_tp
  repeat k_all
  rename Fm _ _ _ _ _ _ _ _ _ => F
  refine unpackT3_ F hh (F.tupR Imm.put_self) ?_
  clear F; intro s2 F
  repeat k_all
  rename Fm _ _ _ _ _ _ _ _ _ => F
  refine stC_ (led' := fun o' => [(st, _), (there, _), (here, _), (ca, o'), (317, _)]) F q4 (by rw [q3]; rfl) q5 (fun o' => .tail (.tail (.tail .head))) ?_
  clear F; intro oc' s3 hoc F
  repeat k_all
  rename Fm _ _ _ _ _ _ _ _ _ => F
  have F := F.bring3
  have hR_ca := F.lgr.no _ (.head _)
  have F := F.freeze q6
  have F := F.swap2
  have le1 : Le R ((R.put tp (tupOf #[Value.ref here, Value.ref there, Value.ref st] 0)).put ca oc') := (Le.put hR_tp).trans (Le.put hR_ca)
  refine goes_ 2 (hA'.le (by decide)) F.out.ok (F.front (l1 := [_, _])) .nil .nil (le1 _ _ hbl) (hB.mono le1) hlen hsafe ?_
  intro s4 R4 vs4 n4 nvs4 kn4 P4 le4 hN4 hst4
  have F4 := F.after2 P4
  simp only [List.append_nil, List.cons_append, List.nil_append] at F4
  clear F
  repeat k_all
  rename Fm _ _ _ _ _ _ _ _ _ => F
  refine flat_ 2 (hA'.le (by decide)) F.out.ok (le4 _ _ (le1 _ _ hbl)) (hB.mono (le1.trans le4)) hdep hfl ?_
  intro s5 R5 fc fvs fn P5 le5 hfc hfv
  have F5 := F.after0 P5
  simp only [List.append_nil, List.cons_append, List.nil_append] at F5
  clear F
  repeat k_all
  rename Fm _ _ _ _ _ _ _ _ _ => F
  refine lam_ (led' := fun o' => [(st, _), (here, _), (there, _), (317, o')]) F G (fun o' => .tail (.tail (.tail .head))) (qual := Str.ofString "_law_same.<locals>.<lambda>") (by rw [q1]; decide +kernel) (hT.mono (le1.trans (le4.trans le5))) q2 (.inr rfl) (clos := [("there", ca)]) (by unfold closureFor cellOf; rw [q3]; with_unfolding_all rfl) rfl ?_
  clear F
  intro lam cv pm ctv ps' R6 s6 le6 hlam hcv hT6 F
  have le6 : Le R5 R6 := le6
  have hoc6 : R6 ca = some oc' := le6 _ _ (le5 _ _ (le4 _ _ Imm.put_self))
  have hC : AskC prog w R6 lam there := by
    intro A' E' s' R' nvs pvs kn kp ns wd t p ps Q' leR hA'' O' hl' hN' hp' hps' hS' hnl' k'
    refine enterL_ (n := 2) [Str.ofString "word", Str.ofString "parts"] [(Str.ofString "_law_said", .ref 308)] hA'' O' hl' (leR _ _ hlam) (hcv.mono leR) (by decide +kernel) (List.forall_mem_cons.mpr ⟨gl_said w, (fun _ h => nomatch h)⟩) rfl rfl ?_
    intro env2 s2' c1 c2 F2 G2 hA2
    simp only [l0, List.zip, List.zipWith, List.map, List.nil_append, List.cons_append] at F2
    have hh2 := hA2.hd
    clear G hh
    have G := G2
    clear G2
    have fk : env2.kindOf (Str.ofString "there") = some .free := by unfold Env.kindOf; rw [c2]; rfl
    have fc : env2.cells.lookup (Str.ofString "there") = some ca := by rw [c1]; rfl
    have fr := leR _ _ hoc6
    repeat k_all
    rename Fm _ _ _ _ _ _ _ _ _ => F
    refine said_ hA2 F.out.ok (F.front (l1 := [_]) (l2 := [])) hN' hp' hps' hS' hnl' ?_
    intro v s7 R7 nvs7 kn7 P7 le7 hN7 hv7
    have F7 := F.after1 P7
    clear F
    rename Fm _ _ _ _ _ _ _ _ _ => F
    exact k' _ _ _ _ _ F.post le7 hN7 hv7
  repeat k_all
  rename Fm _ _ _ _ _ _ _ _ _ => F; refine dE_ F ?_; clear F; intro lb s7 F hn_lb
  repeat k_all
  rename Fm _ _ _ _ _ _ _ _ _ => F
  refine make_ F (by k_is) (by k_is) (by k_is) ?_
  clear F
  intro hk dx s8 hR_hk hR_dx hn_hk hn_dx F
  refine initH_ (hA'.tc.le (by decide)) F.out.ok (F.front (l1 := [_])) Imm.put_self ?_
  intro s9 h1 t1 h2 t2 h3 t3 lv nv nd P9
  have F9 := F.after1 P9
  simp only [List.append_nil, List.cons_append, List.nil_append] at F9
  clear F
  refine ⟨rfl, ?_⟩
  rename Fm _ _ _ _ _ _ _ _ _ => F
  have hR_dx2 := F.lgr.no _ (.head _)
  have F := F.freeze hn_dx
  have le7 := (Le.put (o := instObj 227 dx) hR_hk).trans (Le.put (o := dictOf [⟨h1, .str "replies" t1, .ref lam⟩, ⟨h2, .str "labels" t2, lv⟩, ⟨h3, .str "notes" t3, nv⟩] nd) hR_dx2)
  have hH : HookR _ hk lam := ⟨dx, h1, t1, h2, t2, h3, t3, lv, nv, nd, Le.put hR_dx2 _ _ Imm.put_self, Imm.put_self⟩
  have HKw : HK prog w R6 _ hk lam there := ⟨hH, ⟨_, _, le7 _ _ hlam, rfl⟩, hC, le7⟩
  repeat k_all
  rename Fm _ _ _ _ _ _ _ _ _ => F
  have F := (F.drop).bring2
  refine runrow_ hr (hA'.le (by decide)) F.out.ok (F.front (l1 := [_])) HKw .nil (le7 _ _ (le6 _ _ hfc)) (hfv.mono (le6.trans le7)) hfl ?some ?none
  case none =>
    intro er s10 R10 nvs10 kn10 P10 le10 hN10
    have F10 := F.after1 P10
    simp only [List.append_nil, List.cons_append, List.nil_append] at F10
    clear F
    have eg : (goesB b [] []).1 = none := Option.map_eq_none_iff.mp er
    have hoc10 := le10 _ _ (le7 _ _ hoc6)
    repeat k_all
    rename Fm _ _ _ _ _ _ _ _ _ => F
    refine neNotes_ F hA' (.tail _ (.tail _ (.head _))) (.head _) (hN4.mono (le5.trans (le6.trans (le7.trans le10)))) hN10 hok ?_
    repeat k_all
    refine isNone_ rfl ?_
    repeat k_all
    refine eq_bool ?_
    rw [eg, show ((Value.none == Value.none) == (none : Option (List Str)).isSome) = false from rfl]
    repeat k_all
    refine BoolOp_or ?_
    repeat k_all
    refine isNone_ rfl ?_
    rw [beq_self_eq_true]
    repeat k_all
    rename Fm _ _ _ _ _ _ _ _ _ => F
    have F9 := F.sublist (led' := [(317, tabObj ps')]) (.cons _ (.cons _ (.cons _ (.cons₂ _ .slnil))))
    exact h _ _ _ (le1.trans (le4.trans (le5.trans (le6.trans (le7.trans le10))))) F9.post (hT6.mono (le7.trans le10))
  case some =>
    intro st' gs' er s10 R10 x dw od sa ga fv vs gvs n gn nvs10 kn10 P10 le10 hx10 hw10 hvs hgs hN10
    have F10 := F.after1 P10
    simp only [List.append_nil, List.cons_append, List.nil_append] at F10
    clear F
    obtain ⟨st2, eg, e2⟩ := Option.map_eq_some_iff.mp er
    obtain ⟨rfl, rfl⟩ := Prod.mk.inj e2
    cases hgs
    have hoc10 := le10 _ _ (le7 _ _ hoc6)
    repeat k_all
    rename Fm _ _ _ _ _ _ _ _ _ => F
    refine neNotes_ F hA' (.tail _ (.tail _ (.tail _ (.tail _ (.tail _ (.head _)))))) (.tail _ (.tail _ (.head _))) (hN4.mono (le5.trans (le6.trans (le7.trans le10)))) hN10 hok ?_
    repeat k_all
    refine isNone_ rfl ?_
    repeat k_all
    refine eq_bool ?_
    rw [eg, show ((Value.ref x == Value.none) == (some st2 : Option (List Str)).isSome) = false from rfl]
    repeat k_all
    refine BoolOp_or ?_
    repeat k_all
    refine isNone_ rfl ?_
    show wpAny _ _ (truthy (.bool false)) _ _ _
    repeat k_all
    refine BoolOp_one ?_
    refine BoolOp_and ?_
    repeat k_all
    rename Fm _ _ _ _ _ _ _ _ _ => F; refine wattr_ F hx10 hw10 .head (wG_stack w) (by intros; rfl) rfl ?_; clear F; intro s11 F
    repeat k_all
    rename Fm _ _ _ _ _ _ _ _ _ => F
    refine eqStrs_ F hA' (.tail _ (.head _)) (.tail _ (.tail _ (.tail _ (.tail _ (.head _))))) hvs (hst4 _ eg) (hsok _ eg) ?_
    repeat k_all
    refine BoolOp_one ?_
    repeat k_all
    rename Fm _ _ _ _ _ _ _ _ _ => F; refine wattr_ F hx10 hw10 .head (wG_guards w) (by intros; rfl) rfl ?_; clear F; intro s12 F
    repeat k_all
    rename Fm _ _ _ _ _ _ _ _ _ => F; refine nl_ F ?_ (Nat.le_of_ble_eq_true rfl); clear F; intro em s_em F hn_em
    repeat k_all
    rename Fm _ _ _ _ _ _ _ _ _ => F
    refine eqStrs_ F hA' (.tail _ (.tail _ (.tail _ (.tail _ (.head _))))) (.head _) .nil .nil (fun _ h => nomatch h) ?_
    repeat k_all
    rename Fm _ _ _ _ _ _ _ _ _ => F
    have F9 := F.sublist (led' := [(317, tabObj ps')]) (.cons _ (.cons _ (.cons _ (.cons _ (.cons _ (.cons _ (.cons _ (.cons₂ _ .slnil))))))))
    exact h _ _ _ (le1.trans (le4.trans (le5.trans (le6.trans (le7.trans le10))))) F9.post (hT6.mono (le7.trans le10))
end

-- LDs
noncomputable def posD : Pos := { line := 274, col := 38, endLine := 274, endCol := 93 }
section
variable {prog : Program} {w : World} {s : Shared} {R : Imm} {A : Around} {E : Value → Shared → Prop}
set_option maxHeartbeats 4000000 in
theorem deedsT_ {pat : Str} {tp : Tok} {ps : Array Value} {Q : Value → Shared → Prop} (hA : Rm 30 A) (O : Ok (hd.heap_1 w.params) R s) (hl : Led R [(324, tabObj ps)] s)
    (hp : pat.length ≤ 10) (hkp : short pat = true) (hT : TabI R posD "_law_deeds_same.<locals>.<lambda>" ps)
    (h : ∀ s' R' ps', Le R R' → Post (hd.heap_1 w.params) s [324] R R' [(324, tabObj ps')] s' → TabI R' posD "_law_deeds_same.<locals>.<lambda>" ps' → Q (.bool true) s') :
    wpAny (model prog w) A (call (.ref 329) [.str pat tp, .bool true]) Q E s := by
  refine' enterX_ (n := 29) ["pattern", "is_replaced"] ["orders", "work", "due"] "there" [("run_row", .ref 238), ("GivenHooks", .ref 227), ("len", .builtin "len")] hA O hl ?ho ?hcd ?hc ?hcells ?hg ?hlen ?hbind ?_
  case ho => k_is
  case hcd => k_is
  case hc => decide +kernel
  case hcells => exact fun _ => rfl
  case hg => exact (List.forall_mem_cons.mpr ⟨gl_run_row w, (List.forall_mem_cons.mpr ⟨gl_GivenHooks w, (List.forall_mem_cons.mpr ⟨gl_len w, (fun _ h => nomatch h)⟩)⟩)⟩)
  case hlen => rfl
  case hbind => rfl
  intro env ca oc s1 q1 q2 q3 q4 q5 q6 F G hA'
  simp only [l0, List.zip, List.zipWith, List.map, List.nil_append, List.cons_append] at F
  have hh := hA'.hd
  have q3' : env.cells.lookup (Str.ofString "there") = some ca := by rw [q3]; rfl
  repeat k_all
  rename Fm _ _ _ _ _ _ _ _ _ => F; refine nl_ F ?_ (Nat.le_of_ble_eq_true rfl); clear F; intro there s_there F hn_there
  repeat k_all
  rename Fm _ _ _ _ _ _ _ _ _ => F
  refine stC_ (led' := fun o' => [(there, _), (ca, o'), (324, _)]) F q4 (by rw [q3]; rfl) q5 (fun o' => .tail .head) ?_
  clear F; intro oc' s3 hoc F
  have F := F.swap
  have hR_ca := F.lgr.no _ (.head _)
  have F9 := F.freeze q6
  clear F
  repeat k_all
  rename Fm _ _ _ _ _ _ _ _ _ => F; refine ntR_ F ?_ (Nat.le_of_ble_eq_true rfl); clear F; intro a1 s_a1 hR_a1 F hn_a1
  repeat k_all
  rename Fm _ _ _ _ _ _ _ _ _ => F; refine ntR_ F ?_ (Nat.le_of_ble_eq_true rfl); clear F; intro a2 s_a2 hR_a2 F hn_a2
  repeat k_all
  rename Fm _ _ _ _ _ _ _ _ _ => F; refine ntR_ F ?_ (Nat.le_of_ble_eq_true rfl); clear F; intro a3 s_a3 hR_a3 F hn_a3
  repeat k_all
  rename Fm _ _ _ _ _ _ _ _ _ => F; refine ntR_ F ?_ (Nat.le_of_ble_eq_true rfl); clear F; intro a4 s_a4 hR_a4 F hn_a4
  repeat k_all
  rename Fm _ _ _ _ _ _ _ _ _ => F; refine ntR_ F ?_ (Nat.le_of_ble_eq_true rfl); clear F; intro a5 s_a5 hR_a5 F hn_a5
  repeat k_all
  rename Fm _ _ _ _ _ _ _ _ _ => F; refine ntR_ F ?_ (Nat.le_of_ble_eq_true rfl); clear F; intro a6 s_a6 hR_a6 F hn_a6
  repeat k_all
  rename Fm _ _ _ _ _ _ _ _ _ => F; refine ntR_ F ?_ (Nat.le_of_ble_eq_true rfl); clear F; intro a7 s_a7 hR_a7 F hn_a7
  repeat k_all
  rename Fm _ _ _ _ _ _ _ _ _ => F; refine nlR_ F ?_ (Nat.le_of_ble_eq_true rfl); clear F; intro fl s_fl hR_fl F hn_fl
  repeat k_all
  refine if_n ?_
  refine if_t ?_
  rename Fm _ _ _ _ _ _ _ _ _ => F
  obtain ⟨R2, ⟨le1, hfl, hfs, hoc2⟩, F⟩ := F.abs (P := fun R2 => Le R R2 ∧ R2 fl = some (listOf [Value.ref a1, .ref a2, .ref a3, .ref a4, .ref a5, .ref a6, .ref a7].toArray 0) ∧ FOsR R2 [Value.ref a1, .ref a2, .ref a3, .ref a4, .ref a5, .ref a6, .ref a7] (fsT pat) ∧ R2 ca = some oc')
    ⟨(Le.put hR_ca).trans ((Le.put hR_a1).trans ((Le.put hR_a2).trans ((Le.put hR_a3).trans ((Le.put hR_a4).trans ((Le.put hR_a5).trans ((Le.put hR_a6).trans ((Le.put hR_a7).trans (Le.put hR_fl)))))))), Imm.put_self, .cons (.sim (Le.put hR_fl _ _ (Le.put hR_a7 _ _ (Le.put hR_a6 _ _ (Le.put hR_a5 _ _ (Le.put hR_a4 _ _ (Le.put hR_a3 _ _ (Le.put hR_a2 _ _ Imm.put_self))))))) (.s (.s .nil))) (.cons (.sim (Le.put hR_fl _ _ (Le.put hR_a7 _ _ (Le.put hR_a6 _ _ (Le.put hR_a5 _ _ (Le.put hR_a4 _ _ (Le.put hR_a3 _ _ Imm.put_self)))))) (.s .nil)) (.cons (.sim (Le.put hR_fl _ _ (Le.put hR_a7 _ _ (Le.put hR_a6 _ _ (Le.put hR_a5 _ _ (Le.put hR_a4 _ _ Imm.put_self))))) (.s .nil)) (.cons (.sim (Le.put hR_fl _ _ (Le.put hR_a7 _ _ (Le.put hR_a6 _ _ (Le.put hR_a5 _ _ Imm.put_self)))) (.s (.s .nil))) (.cons (.mat (Le.put hR_fl _ _ (Le.put hR_a7 _ _ (Le.put hR_a6 _ _ Imm.put_self)))) (.cons (.sim (Le.put hR_fl _ _ (Le.put hR_a7 _ _ Imm.put_self)) (.s (.s .nil))) (.cons (.rep (Le.put hR_fl _ _ Imm.put_self)) (.nil))))))), Le.put hR_fl _ _ (Le.put hR_a7 _ _ (Le.put hR_a6 _ _ (Le.put hR_a5 _ _ (Le.put hR_a4 _ _ (Le.put hR_a3 _ _ (Le.put hR_a2 _ _ (Le.put hR_a1 _ _ Imm.put_self)))))))⟩
  repeat k_all
  rename Fm _ _ _ _ _ _ _ _ _ => F
  refine lam_ (led' := fun o' => [(there, _), (324, o')]) F G (fun o' => .tail .head) (qual := Str.ofString "_law_deeds_same.<locals>.<lambda>") (by rw [q1]; decide +kernel) (hT.mono le1) q2 (.inl rfl) (clos := [("there", ca)]) (by unfold closureFor cellOf; rw [q3]; with_unfolding_all rfl) rfl ?_
  clear F
  intro lam cv pm ctv ps' R6 s6 le6 hlam hcv hT6 F
  have le6 : Le R2 R6 := le6
  have hoc6 : R6 ca = some oc' := le6 _ _ hoc2
  have hC : AskC prog w R6 lam there := by
    intro A' E' s' R' nvs pvs kn kp ns wd t p ps Q' leR hA'' O' hl' hN' hp' hps' hS' hnl' k'
    refine enterL_ (n := 2) [Str.ofString "word", Str.ofString "parts"] [(Str.ofString "_law_said", .ref 308), (Str.ofString "list", .type "list")] hA'' O' hl' (leR _ _ hlam) (hcv.mono leR) (by decide +kernel) (List.forall_mem_cons.mpr ⟨gl_said w, List.forall_mem_cons.mpr ⟨gl_list w, (fun _ h => nomatch h)⟩⟩) rfl rfl ?_
    intro env2 s2' c1 c2 F2 G2 hA2
    simp only [l0, List.zip, List.zipWith, List.map, List.nil_append, List.cons_append] at F2
    have hh2 := hA2.hd
    clear G hh F
    have G := G2
    clear G2
    have fk : env2.kindOf (Str.ofString "there") = some .free := by unfold Env.kindOf; rw [c2]; rfl
    have fc : env2.cells.lookup (Str.ofString "there") = some ca := by rw [c1]; rfl
    have fr := leR _ _ hoc6
    repeat k_all
    rename Fm _ _ _ _ _ _ _ _ _ => F
    refine copyL_ F (F.listR hp') (by rw [List.size_toArray, hps'.length]; have := hS'.ln; omega) ?_
    clear F; intro D cD sD F hn_D
    have hR_D := F.lgr.no _ (.head _)
    have F9 := F.freeze hn_D
    clear F
    repeat k_all
    rename Fm _ _ _ _ _ _ _ _ _ => F
    refine said_ hA2 F.out.ok (F.front (l1 := [_]) (l2 := [])) (hN'.mono (Le.put hR_D)) Imm.put_self (hps'.mono (Le.put hR_D)) hS' hnl' ?_
    intro v s7 R7 nvs7 kn7 P7 le7 hN7 hv7
    have F7 := F.after1 P7
    clear F
    rename Fm _ _ _ _ _ _ _ _ _ => F
    exact k' _ _ _ _ _ F.post ((Le.put hR_D).trans le7) hN7 hv7
  repeat k_all
  rename Fm _ _ _ _ _ _ _ _ _ => F; refine dE_ F ?_; clear F; intro lb s7 F hn_lb
  repeat k_all
  rename Fm _ _ _ _ _ _ _ _ _ => F
  refine make_ F (by k_is) (by k_is) (by k_is) ?_
  clear F
  intro hk dx s8 hR_hk hR_dx hn_hk hn_dx F
  refine initH_ (hA'.tc.le (by decide)) F.out.ok (F.front (l1 := [_])) Imm.put_self ?_
  intro s9 h1 t1 h2 t2 h3 t3 lv nv nd P9
  have F9 := F.after1 P9
  simp only [List.append_nil, List.cons_append, List.nil_append] at F9
  clear F
  refine ⟨rfl, ?_⟩
  rename Fm _ _ _ _ _ _ _ _ _ => F
  have hR_dx2 := F.lgr.no _ (.head _)
  have F := F.freeze hn_dx
  have le7 := (Le.put (o := instObj 227 dx) hR_hk).trans (Le.put (o := dictOf [⟨h1, .str "replies" t1, .ref lam⟩, ⟨h2, .str "labels" t2, lv⟩, ⟨h3, .str "notes" t3, nv⟩] nd) hR_dx2)
  have hH : HookR _ hk lam := ⟨dx, h1, t1, h2, t2, h3, t3, lv, nv, nd, Le.put hR_dx2 _ _ Imm.put_self, Imm.put_self⟩
  have HKw : HK prog w R6 _ hk lam there := ⟨hH, ⟨_, _, le7 _ _ hlam, rfl⟩, hC, le7⟩
  repeat k_all
  rename Fm _ _ _ _ _ _ _ _ _ => F
  have F := F.drop
  by_cases h0 : (7 + pat.length) % 4 = 0
  · refine runrow_ (runsT0 hp hkp h0) (hA'.le (by decide)) F.out.ok (F.front (l1 := [_])) HKw .nil (le7 _ _ (le6 _ _ hfl)) (hfs.mono (le6.trans le7)) (by show 7 ≤ 50000; decide) (fun st' gs' er => by cases er) ?_
    intro _ s10 R10 nvs10 kn10 P10 le10 hN10
    have F10 := F.after1 P10
    simp only [List.append_nil, List.cons_append, List.nil_append] at F10
    clear F
    have hoc10 := le10 _ _ (le7 _ _ hoc6)
    have hlit := noteOk_lit hkp
    repeat k_all
    refine if_n ?_
    refine if_t ?_
    repeat k_all
    rename Fm _ _ _ _ _ _ _ _ _ => F; refine nlR_ F ?_ (Nat.le_of_ble_eq_true rfl); clear F; intro u1 s_u1 hR_u1 F hn_u1
    repeat k_all
    rename Fm _ _ _ _ _ _ _ _ _ => F; refine ntR_ F ?_ (Nat.le_of_ble_eq_true rfl); clear F; intro w1 s_w1 hR_w1 F hn_w1
    repeat k_all
    rename Fm _ _ _ _ _ _ _ _ _ => F; refine nlR_ F ?_ (Nat.le_of_ble_eq_true rfl); clear F; intro u2 s_u2 hR_u2 F hn_u2
    repeat k_all
    rename Fm _ _ _ _ _ _ _ _ _ => F; refine ntR_ F ?_ (Nat.le_of_ble_eq_true rfl); clear F; intro w2 s_w2 hR_w2 F hn_w2
    repeat k_all
    rename Fm _ _ _ _ _ _ _ _ _ => F; refine nlR_ F ?_ (Nat.le_of_ble_eq_true rfl); clear F; intro u3 s_u3 hR_u3 F hn_u3
    repeat k_all
    rename Fm _ _ _ _ _ _ _ _ _ => F; refine ntR_ F ?_ (Nat.le_of_ble_eq_true rfl); clear F; intro w3 s_w3 hR_w3 F hn_w3
    repeat k_all
    rename Fm _ _ _ _ _ _ _ _ _ => F; refine nl_ F ?_ (Nat.le_of_ble_eq_true rfl); clear F; intro du s_du F hn_du
    rename Fm _ _ _ _ _ _ _ _ _ => F
    obtain ⟨R11, ⟨le11, hdue⟩, F⟩ := F.abs (P := fun R2 => Le R10 R2 ∧ NotesR R2 [Value.ref w1, .ref w2, .ref w3] [nVar, nVal, nMat pat]) ⟨(Le.put hR_u1).trans ((Le.put hR_w1).trans ((Le.put hR_u2).trans ((Le.put hR_w2).trans ((Le.put hR_u3).trans (Le.put hR_w3))))), .cons (.mk (Le.put hR_w3 _ _ (Le.put hR_u3 _ _ (Le.put hR_w2 _ _ (Le.put hR_u2 _ _ Imm.put_self)))) (Le.put hR_w3 _ _ (Le.put hR_u3 _ _ (Le.put hR_w2 _ _ (Le.put hR_u2 _ _ (Le.put hR_w1 _ _ Imm.put_self))))) (.cons .s .nil)) (.cons (.mk (Le.put hR_w3 _ _ (Le.put hR_u3 _ _ Imm.put_self)) (Le.put hR_w3 _ _ (Le.put hR_u3 _ _ (Le.put hR_w2 _ _ Imm.put_self))) (.cons .s .nil)) (.cons (.mk (Imm.put_self) (Le.put hR_w3 _ _ Imm.put_self) (.cons .s (.cons .s .nil))) (.nil)))⟩
    repeat k_all
    rename Fm _ _ _ _ _ _ _ _ _ => F; refine lenS_ F (by omega) ?_; clear F; intro t12 s12 F
    repeat k_all
    rename Fm _ _ _ _ _ _ _ _ _ => F; refine modI_ F (by decide) ?_; clear F; intro t13 s13 F
    repeat k_all
    have e4 : (((7 : Int) + (pat.length : Int)).fmod 4 == 0) = decide ((7 + pat.length) % 4 = 0) := by
      rw [Bool.eq_iff_iff]
      rw [Int.fmod_eq_emod_of_nonneg _ (by decide)]
      simp only [beq_iff_eq, decide_eq_true_eq]
      omega
    rw [e4]
    refine if_d (fun _ => ?_) fun q => absurd h0 q
    repeat k_all
    refine BoolOp_and ?_
    have hoc11 := le11 _ _ hoc10
    repeat k_all
    rename Fm _ _ _ _ _ _ _ _ _ => F
    refine eqNotes_ F hA' (.tail _ (.head _)) (.head _) (hN10.mono le11) hdue (List.forall_mem_cons.mpr ⟨hlit.1, List.forall_mem_cons.mpr ⟨hlit.2.1, List.forall_mem_cons.mpr ⟨hlit.2.2.1, fun _ h => nomatch h⟩⟩⟩) ?_
    repeat k_all
    refine BoolOp_one ?_
    repeat k_all
    refine isNone_ rfl ?_
    rw [beq_self_eq_true]
    repeat k_all
    rename Fm _ _ _ _ _ _ _ _ _ => F
    have F9 := F.sublist (led' := [(324, tabObj ps')]) (.cons _ (.cons _ (.cons₂ _ .slnil)))
    exact h _ _ _ (le1.trans (le6.trans (le7.trans (le10.trans le11)))) F9.post (hT6.mono (le7.trans (le10.trans le11)))
  · refine runrow_ (runsT1 hp hkp h0) (hA'.le (by decide)) F.out.ok (F.front (l1 := [_])) HKw .nil (le7 _ _ (le6 _ _ hfl)) (hfs.mono (le6.trans le7)) (by show 7 ≤ 50000; decide) ?_ (fun er => by cases er)
    intro st' gs' er s10 R10 x dw od sa ga fv vs gvs n gn nvs10 kn10 P10 le10 hx10 hw10 hvs hgs hN10
    have F10 := F.after1 P10
    simp only [List.append_nil, List.cons_append, List.nil_append] at F10
    clear F
    cases er
    have hoc10 := le10 _ _ (le7 _ _ hoc6)
    have hlit := noteOk_lit hkp
    repeat k_all
    refine if_n ?_
    refine if_t ?_
    repeat k_all
    rename Fm _ _ _ _ _ _ _ _ _ => F; refine nlR_ F ?_ (Nat.le_of_ble_eq_true rfl); clear F; intro u1 s_u1 hR_u1 F hn_u1
    repeat k_all
    rename Fm _ _ _ _ _ _ _ _ _ => F; refine ntR_ F ?_ (Nat.le_of_ble_eq_true rfl); clear F; intro w1 s_w1 hR_w1 F hn_w1
    repeat k_all
    rename Fm _ _ _ _ _ _ _ _ _ => F; refine nlR_ F ?_ (Nat.le_of_ble_eq_true rfl); clear F; intro u2 s_u2 hR_u2 F hn_u2
    repeat k_all
    rename Fm _ _ _ _ _ _ _ _ _ => F; refine ntR_ F ?_ (Nat.le_of_ble_eq_true rfl); clear F; intro w2 s_w2 hR_w2 F hn_w2
    repeat k_all
    rename Fm _ _ _ _ _ _ _ _ _ => F; refine nlR_ F ?_ (Nat.le_of_ble_eq_true rfl); clear F; intro u3 s_u3 hR_u3 F hn_u3
    repeat k_all
    rename Fm _ _ _ _ _ _ _ _ _ => F; refine ntR_ F ?_ (Nat.le_of_ble_eq_true rfl); clear F; intro w3 s_w3 hR_w3 F hn_w3
    repeat k_all
    rename Fm _ _ _ _ _ _ _ _ _ => F; refine nl_ F ?_ (Nat.le_of_ble_eq_true rfl); clear F; intro du s_du F hn_du
    rename Fm _ _ _ _ _ _ _ _ _ => F
    obtain ⟨R11, ⟨le11, hdue⟩, F⟩ := F.abs (P := fun R2 => Le R10 R2 ∧ NotesR R2 [Value.ref w1, .ref w2, .ref w3] [nVar, nVal, nMat pat]) ⟨(Le.put hR_u1).trans ((Le.put hR_w1).trans ((Le.put hR_u2).trans ((Le.put hR_w2).trans ((Le.put hR_u3).trans (Le.put hR_w3))))), .cons (.mk (Le.put hR_w3 _ _ (Le.put hR_u3 _ _ (Le.put hR_w2 _ _ (Le.put hR_u2 _ _ Imm.put_self)))) (Le.put hR_w3 _ _ (Le.put hR_u3 _ _ (Le.put hR_w2 _ _ (Le.put hR_u2 _ _ (Le.put hR_w1 _ _ Imm.put_self))))) (.cons .s .nil)) (.cons (.mk (Le.put hR_w3 _ _ (Le.put hR_u3 _ _ Imm.put_self)) (Le.put hR_w3 _ _ (Le.put hR_u3 _ _ (Le.put hR_w2 _ _ Imm.put_self))) (.cons .s .nil)) (.cons (.mk (Imm.put_self) (Le.put hR_w3 _ _ Imm.put_self) (.cons .s (.cons .s .nil))) (.nil)))⟩
    repeat k_all
    rename Fm _ _ _ _ _ _ _ _ _ => F; refine lenS_ F (by omega) ?_; clear F; intro t12 s12 F
    repeat k_all
    rename Fm _ _ _ _ _ _ _ _ _ => F; refine modI_ F (by decide) ?_; clear F; intro t13 s13 F
    repeat k_all
    have e4 : (((7 : Int) + (pat.length : Int)).fmod 4 == 0) = decide ((7 + pat.length) % 4 = 0) := by
      rw [Bool.eq_iff_iff]
      rw [Int.fmod_eq_emod_of_nonneg _ (by decide)]
      simp only [beq_iff_eq, decide_eq_true_eq]
      omega
    rw [e4]
    refine if_d (fun q => absurd q h0) fun _ => ?_
    repeat k_all
    refine BoolOp_and ?_
    have hoc11 := le11 _ _ hoc10
    repeat k_all
    rename Fm _ _ _ _ _ _ _ _ _ => F; refine nlR_ F ?_ (Nat.le_of_ble_eq_true rfl); clear F; intro u4 s_u4 hR_u4 F hn_u4
    repeat k_all
    rename Fm _ _ _ _ _ _ _ _ _ => F; refine ntR_ F ?_ (Nat.le_of_ble_eq_true rfl); clear F; intro w4 s_w4 hR_w4 F hn_w4
    repeat k_all
    rename Fm _ _ _ _ _ _ _ _ _ => F; refine nlR_ F ?_ (Nat.le_of_ble_eq_true rfl); clear F; intro u5 s_u5 hR_u5 F hn_u5
    repeat k_all
    rename Fm _ _ _ _ _ _ _ _ _ => F; refine ntR_ F ?_ (Nat.le_of_ble_eq_true rfl); clear F; intro w5 s_w5 hR_w5 F hn_w5
    repeat k_all
    rename Fm _ _ _ _ _ _ _ _ _ => F; refine nl_ F ?_ (Nat.le_of_ble_eq_true rfl); clear F; intro tm s_tm F hn_tm
    rename Fm _ _ _ _ _ _ _ _ _ => F
    obtain ⟨R12, ⟨le12, hdu2⟩, F⟩ := F.abs (P := fun R2 => Le R11 R2 ∧ NotesR R2 ([Value.ref w1, .ref w2, .ref w3] ++ [.ref w4, .ref w5]) [nVar, nVal, nMat pat, nRead, nRep])
      ⟨(Le.put hR_u4).trans ((Le.put hR_w4).trans ((Le.put hR_u5).trans (Le.put hR_w5))), NotesR.snoc (NotesR.snoc (hdue.mono ((Le.put hR_u4).trans ((Le.put hR_w4).trans ((Le.put hR_u5).trans (Le.put hR_w5))))) (.mk (Le.put hR_w5 _ _ (Le.put hR_u5 _ _ Imm.put_self)) (Le.put hR_w5 _ _ (Le.put hR_u5 _ _ (Le.put hR_w4 _ _ Imm.put_self))) (.cons .s .nil))) (.mk (Imm.put_self) (Le.put hR_w5 _ _ Imm.put_self) (.cons .s (.cons .i (.cons .s .nil))))⟩
    repeat k_all
    rename Fm _ _ _ _ _ _ _ _ _ => F; refine addL_ F (F.listAt (.tail _ (.head _))) (F.listAt (.head _)) (Nat.le_of_ble_eq_true rfl) ?_; clear F; intro sm s14 F hn_sm
    repeat k_all
    rename Fm _ _ _ _ _ _ _ _ _ => F
    refine eqNotes_ (us := [Value.ref w1, .ref w2, .ref w3] ++ [.ref w4, .ref w5]) F hA' (.tail _ (.tail _ (.tail _ (.tail _ (.tail _ (.head _)))))) (.head _) (hN10.mono (le11.trans le12)) hdu2 (List.forall_mem_cons.mpr ⟨hlit.1, List.forall_mem_cons.mpr ⟨hlit.2.1, List.forall_mem_cons.mpr ⟨hlit.2.2.1, List.forall_mem_cons.mpr ⟨hlit.2.2.2.1, List.forall_mem_cons.mpr ⟨hlit.2.2.2.2.1, fun _ h => nomatch h⟩⟩⟩⟩⟩) ?_
    repeat k_all
    refine BoolOp_one ?_
    repeat k_all
    rename Fm _ _ _ _ _ _ _ _ _ => F; refine wattr_ F (le12 _ _ (le11 _ _ hx10)) hw10 (.tail (.tail (.tail .head))) (wG_stack w) (by intros; rfl) rfl ?_; clear F; intro s15 F
    repeat k_all
    rename Fm _ _ _ _ _ _ _ _ _ => F; refine nl_ F ?_ (Nat.le_of_ble_eq_true rfl); clear F; intro em s_em F hn_em
    repeat k_all
    rename Fm _ _ _ _ _ _ _ _ _ => F
    cases hvs
    refine eqStrs_ F hA' (.tail _ (.tail _ (.tail _ (.tail _ (.tail _ (.head _)))))) (.head _) .nil .nil (fun _ h => nomatch h) ?_
    repeat k_all
    rename Fm _ _ _ _ _ _ _ _ _ => F
    have F9 := F.sublist (led' := [(324, tabObj ps')]) (.cons _ (.cons _ (.cons _ (.cons _ (.cons _ (.cons _ (.cons _ (.cons _ (.cons₂ _ .slnil)))))))))
    exact h _ _ _ (le1.trans (le6.trans (le7.trans (le10.trans (le11.trans le12))))) F9.post (hT6.mono (le7.trans (le10.trans (le11.trans le12))))
end

-- LDf
section
variable {prog : Program} {w : World} {s : Shared} {R : Imm} {A : Around} {E : Value → Shared → Prop}
set_option maxHeartbeats 4000000 in
theorem deedsF_ {pat : Str} {tp : Tok} {ps : Array Value} {Q : Value → Shared → Prop} (hA : Rm 30 A) (O : Ok (hd.heap_1 w.params) R s) (hl : Led R [(324, tabObj ps)] s)
    (hp : pat.length ≤ 10) (hkp : short pat = true) (hT : TabI R posD "_law_deeds_same.<locals>.<lambda>" ps)
    (h : ∀ s' R' ps', Le R R' → Post (hd.heap_1 w.params) s [324] R R' [(324, tabObj ps')] s' → TabI R' posD "_law_deeds_same.<locals>.<lambda>" ps' → Q (.bool true) s') :
    wpAny (model prog w) A (call (.ref 329) [.str pat tp, .bool false]) Q E s := by
  refine' enterX_ (n := 29) ["pattern", "is_replaced"] ["orders", "work", "due"] "there" [("run_row", .ref 238), ("GivenHooks", .ref 227), ("len", .builtin "len")] hA O hl ?ho ?hcd ?hc ?hcells ?hg ?hlen ?hbind ?_
  case ho => k_is
  case hcd => k_is
  case hc => decide +kernel
  case hcells => exact fun _ => rfl
  case hg => exact (List.forall_mem_cons.mpr ⟨gl_run_row w, (List.forall_mem_cons.mpr ⟨gl_GivenHooks w, (List.forall_mem_cons.mpr ⟨gl_len w, (fun _ h => nomatch h)⟩)⟩)⟩)
  case hlen => rfl
  case hbind => rfl
  intro env ca oc s1 q1 q2 q3 q4 q5 q6 F G hA'
  simp only [l0, List.zip, List.zipWith, List.map, List.nil_append, List.cons_append] at F
  have hh := hA'.hd
  have q3' : env.cells.lookup (Str.ofString "there") = some ca := by rw [q3]; rfl
  repeat k_all
  rename Fm _ _ _ _ _ _ _ _ _ => F; refine nl_ F ?_ (Nat.le_of_ble_eq_true rfl); clear F; intro there s_there F hn_there
  repeat k_all
  rename Fm _ _ _ _ _ _ _ _ _ => F
  refine stC_ (led' := fun o' => [(there, _), (ca, o'), (324, _)]) F q4 (by rw [q3]; rfl) q5 (fun o' => .tail .head) ?_
  clear F; intro oc' s3 hoc F
  have F := F.swap
  have hR_ca := F.lgr.no _ (.head _)
  have F9 := F.freeze q6
  clear F
  repeat k_all
  rename Fm _ _ _ _ _ _ _ _ _ => F; refine ntR_ F ?_ (Nat.le_of_ble_eq_true rfl); clear F; intro a1 s_a1 hR_a1 F hn_a1
  repeat k_all
  rename Fm _ _ _ _ _ _ _ _ _ => F; refine ntR_ F ?_ (Nat.le_of_ble_eq_true rfl); clear F; intro a2 s_a2 hR_a2 F hn_a2
  repeat k_all
  rename Fm _ _ _ _ _ _ _ _ _ => F; refine ntR_ F ?_ (Nat.le_of_ble_eq_true rfl); clear F; intro a3 s_a3 hR_a3 F hn_a3
  repeat k_all
  rename Fm _ _ _ _ _ _ _ _ _ => F; refine ntR_ F ?_ (Nat.le_of_ble_eq_true rfl); clear F; intro a4 s_a4 hR_a4 F hn_a4
  repeat k_all
  rename Fm _ _ _ _ _ _ _ _ _ => F; refine ntR_ F ?_ (Nat.le_of_ble_eq_true rfl); clear F; intro a5 s_a5 hR_a5 F hn_a5
  repeat k_all
  rename Fm _ _ _ _ _ _ _ _ _ => F; refine ntR_ F ?_ (Nat.le_of_ble_eq_true rfl); clear F; intro a6 s_a6 hR_a6 F hn_a6
  repeat k_all
  rename Fm _ _ _ _ _ _ _ _ _ => F; refine ntR_ F ?_ (Nat.le_of_ble_eq_true rfl); clear F; intro a7 s_a7 hR_a7 F hn_a7
  repeat k_all
  rename Fm _ _ _ _ _ _ _ _ _ => F; refine nlR_ F ?_ (Nat.le_of_ble_eq_true rfl); clear F; intro fl0 s_fl0 hR_fl0 F hn_fl0
  repeat k_all
  refine if_n ?_
  refine if_f ?_
  rename Fm _ _ _ _ _ _ _ _ _ => F
  obtain ⟨R1, ⟨le0, hoc1⟩, F⟩ := F.abs (P := fun R2 => Le R R2 ∧ R2 ca = some oc') ⟨(Le.put hR_ca).trans ((Le.put hR_a1).trans ((Le.put hR_a2).trans ((Le.put hR_a3).trans ((Le.put hR_a4).trans ((Le.put hR_a5).trans ((Le.put hR_a6).trans ((Le.put hR_a7).trans (Le.put hR_fl0)))))))), Le.put hR_fl0 _ _ (Le.put hR_a7 _ _ (Le.put hR_a6 _ _ (Le.put hR_a5 _ _ (Le.put hR_a4 _ _ (Le.put hR_a3 _ _ (Le.put hR_a2 _ _ (Le.put hR_a1 _ _ Imm.put_self)))))))⟩
  repeat k_all
  rename Fm _ _ _ _ _ _ _ _ _ => F; refine ntR_ F ?_ (Nat.le_of_ble_eq_true rfl); clear F; intro b1 s_b1 hR_b1 F hn_b1
  repeat k_all
  rename Fm _ _ _ _ _ _ _ _ _ => F; refine ntR_ F ?_ (Nat.le_of_ble_eq_true rfl); clear F; intro b2 s_b2 hR_b2 F hn_b2
  repeat k_all
  rename Fm _ _ _ _ _ _ _ _ _ => F; refine ntR_ F ?_ (Nat.le_of_ble_eq_true rfl); clear F; intro b3 s_b3 hR_b3 F hn_b3
  repeat k_all
  rename Fm _ _ _ _ _ _ _ _ _ => F; refine nlR_ F ?_ (Nat.le_of_ble_eq_true rfl); clear F; intro fl s_fl hR_fl F hn_fl
  repeat k_all
  rename Fm _ _ _ _ _ _ _ _ _ => F
  obtain ⟨R2, ⟨le1, hfl, hfs, hoc2⟩, F⟩ := F.abs (P := fun R2 => Le R R2 ∧ R2 fl = some (listOf [Value.ref b1, .ref b2, .ref b3].toArray 0) ∧ FOsR R2 [Value.ref b1, .ref b2, .ref b3] (fsF pat) ∧ R2 ca = some oc')
    ⟨le0.trans ((Le.put hR_b1).trans ((Le.put hR_b2).trans ((Le.put hR_b3).trans (Le.put hR_fl)))), Imm.put_self, .cons (.sim (Le.put hR_fl _ _ (Le.put hR_b3 _ _ (Le.put hR_b2 _ _ Imm.put_self))) (.s (.s .nil))) (.cons (.sim (Le.put hR_fl _ _ (Le.put hR_b3 _ _ Imm.put_self)) (.s (.s .nil))) (.cons (.asg (Le.put hR_fl _ _ Imm.put_self)) (.nil))), ((Le.put hR_b1).trans ((Le.put hR_b2).trans ((Le.put hR_b3).trans (Le.put hR_fl)))) _ _ hoc1⟩
  repeat k_all
  rename Fm _ _ _ _ _ _ _ _ _ => F
  refine lam_ (led' := fun o' => [(there, _), (324, o')]) F G (fun o' => .tail .head) (qual := Str.ofString "_law_deeds_same.<locals>.<lambda>") (by rw [q1]; decide +kernel) (hT.mono le1) q2 (.inl rfl) (clos := [("there", ca)]) (by unfold closureFor cellOf; rw [q3]; with_unfolding_all rfl) rfl ?_
  clear F
  intro lam cv pm ctv ps' R6 s6 le6 hlam hcv hT6 F
  have le6 : Le R2 R6 := le6
  have hoc6 : R6 ca = some oc' := le6 _ _ hoc2
  have hC : AskC prog w R6 lam there := by
    intro A' E' s' R' nvs pvs kn kp ns wd t p ps Q' leR hA'' O' hl' hN' hp' hps' hS' hnl' k'
    refine enterL_ (n := 2) [Str.ofString "word", Str.ofString "parts"] [(Str.ofString "_law_said", .ref 308), (Str.ofString "list", .type "list")] hA'' O' hl' (leR _ _ hlam) (hcv.mono leR) (by decide +kernel) (List.forall_mem_cons.mpr ⟨gl_said w, List.forall_mem_cons.mpr ⟨gl_list w, (fun _ h => nomatch h)⟩⟩) rfl rfl ?_
    intro env2 s2' c1 c2 F2 G2 hA2
    simp only [l0, List.zip, List.zipWith, List.map, List.nil_append, List.cons_append] at F2
    have hh2 := hA2.hd
    clear G hh F
    have G := G2
    clear G2
    have fk : env2.kindOf (Str.ofString "there") = some .free := by unfold Env.kindOf; rw [c2]; rfl
    have fc : env2.cells.lookup (Str.ofString "there") = some ca := by rw [c1]; rfl
    have fr := leR _ _ hoc6
    repeat k_all
    rename Fm _ _ _ _ _ _ _ _ _ => F
    refine copyL_ F (F.listR hp') (by rw [List.size_toArray, hps'.length]; have := hS'.ln; omega) ?_
    clear F; intro D cD sD F hn_D
    have hR_D := F.lgr.no _ (.head _)
    have F9 := F.freeze hn_D
    clear F
    repeat k_all
    rename Fm _ _ _ _ _ _ _ _ _ => F
    refine said_ hA2 F.out.ok (F.front (l1 := [_]) (l2 := [])) (hN'.mono (Le.put hR_D)) Imm.put_self (hps'.mono (Le.put hR_D)) hS' hnl' ?_
    intro v s7 R7 nvs7 kn7 P7 le7 hN7 hv7
    have F7 := F.after1 P7
    clear F
    rename Fm _ _ _ _ _ _ _ _ _ => F
    exact k' _ _ _ _ _ F.post ((Le.put hR_D).trans le7) hN7 hv7
  repeat k_all
  rename Fm _ _ _ _ _ _ _ _ _ => F; refine dE_ F ?_; clear F; intro lb s7 F hn_lb
  repeat k_all
  rename Fm _ _ _ _ _ _ _ _ _ => F
  refine make_ F (by k_is) (by k_is) (by k_is) ?_
  clear F
  intro hk dx s8 hR_hk hR_dx hn_hk hn_dx F
  refine initH_ (hA'.tc.le (by decide)) F.out.ok (F.front (l1 := [_])) Imm.put_self ?_
  intro s9 h1 t1 h2 t2 h3 t3 lv nv nd P9
  have F9 := F.after1 P9
  simp only [List.append_nil, List.cons_append, List.nil_append] at F9
  clear F
  refine ⟨rfl, ?_⟩
  rename Fm _ _ _ _ _ _ _ _ _ => F
  have hR_dx2 := F.lgr.no _ (.head _)
  have F := F.freeze hn_dx
  have le7 := (Le.put (o := instObj 227 dx) hR_hk).trans (Le.put (o := dictOf [⟨h1, .str "replies" t1, .ref lam⟩, ⟨h2, .str "labels" t2, lv⟩, ⟨h3, .str "notes" t3, nv⟩] nd) hR_dx2)
  have hH : HookR _ hk lam := ⟨dx, h1, t1, h2, t2, h3, t3, lv, nv, nd, Le.put hR_dx2 _ _ Imm.put_self, Imm.put_self⟩
  have HKw : HK prog w R6 _ hk lam there := ⟨hH, ⟨_, _, le7 _ _ hlam, rfl⟩, hC, le7⟩
  repeat k_all
  rename Fm _ _ _ _ _ _ _ _ _ => F
  have F := F.drop
  refine runrow_ (runsF hp hkp) (hA'.le (by decide)) F.out.ok (F.front (l1 := [_])) HKw .nil (le7 _ _ (le6 _ _ hfl)) (hfs.mono (le6.trans le7)) (by show 3 ≤ 50000; decide) ?_ (fun er => by cases er)
  intro st' gs' er s10 R10 x dw od sa ga fv vs gvs n gn nvs10 kn10 P10 le10 hx10 hw10 hvs hgs hN10
  have F10 := F.after1 P10
  simp only [List.append_nil, List.cons_append, List.nil_append] at F10
  clear F
  cases er
  have hoc10 := le10 _ _ (le7 _ _ hoc6)
  have hlit := noteOk_lit hkp
  repeat k_all
  refine if_n ?_
  refine if_f ?_
  repeat k_all
  refine BoolOp_and ?_
  repeat k_all
  rename Fm _ _ _ _ _ _ _ _ _ => F; refine nlR_ F ?_ (Nat.le_of_ble_eq_true rfl); clear F; intro u1 s_u1 hR_u1 F hn_u1
  repeat k_all
  rename Fm _ _ _ _ _ _ _ _ _ => F; refine ntR_ F ?_ (Nat.le_of_ble_eq_true rfl); clear F; intro w1 s_w1 hR_w1 F hn_w1
  repeat k_all
  rename Fm _ _ _ _ _ _ _ _ _ => F; refine nlR_ F ?_ (Nat.le_of_ble_eq_true rfl); clear F; intro u2 s_u2 hR_u2 F hn_u2
  repeat k_all
  rename Fm _ _ _ _ _ _ _ _ _ => F; refine ntR_ F ?_ (Nat.le_of_ble_eq_true rfl); clear F; intro w2 s_w2 hR_w2 F hn_w2
  repeat k_all
  rename Fm _ _ _ _ _ _ _ _ _ => F; refine nl_ F ?_ (Nat.le_of_ble_eq_true rfl); clear F; intro du s_du F hn_du
  rename Fm _ _ _ _ _ _ _ _ _ => F
  obtain ⟨R11, ⟨le11, hdue⟩, F⟩ := F.abs (P := fun R2 => Le R10 R2 ∧ NotesR R2 [Value.ref w1, .ref w2] [nVar, nAsg pat]) ⟨(Le.put hR_u1).trans ((Le.put hR_w1).trans ((Le.put hR_u2).trans (Le.put hR_w2))), .cons (.mk (Le.put hR_w2 _ _ (Le.put hR_u2 _ _ Imm.put_self)) (Le.put hR_w2 _ _ (Le.put hR_u2 _ _ (Le.put hR_w1 _ _ Imm.put_self))) (.cons .s .nil)) (.cons (.mk (Imm.put_self) (Le.put hR_w2 _ _ Imm.put_self) (.cons .s (.cons .s .nil))) .nil)⟩
  repeat k_all
  rename Fm _ _ _ _ _ _ _ _ _ => F
  refine eqNotes_ F hA' (.tail _ (.tail _ (.tail _ (.head _)))) (.head _) (hN10.mono le11) hdue (List.forall_mem_cons.mpr ⟨hlit.1, List.forall_mem_cons.mpr ⟨hlit.2.2.2.2.2, fun _ h => nomatch h⟩⟩) ?_
  repeat k_all
  refine BoolOp_one ?_
  repeat k_all
  rename Fm _ _ _ _ _ _ _ _ _ => F; refine wattr_ F (le11 _ _ hx10) hw10 (.tail .head) (wG_stack w) (by intros; rfl) rfl ?_; clear F; intro s15 F
  repeat k_all
  rename Fm _ _ _ _ _ _ _ _ _ => F; refine nl_ F ?_ (Nat.le_of_ble_eq_true rfl); clear F; intro em s_em F hn_em
  repeat k_all
  rename Fm _ _ _ _ _ _ _ _ _ => F
  cases hvs
  refine eqStrs_ F hA' (.tail _ (.tail _ (.tail _ (.head _)))) (.head _) .nil .nil (fun _ h => nomatch h) ?_
  repeat k_all
  rename Fm _ _ _ _ _ _ _ _ _ => F
  have F9 := F.sublist (led' := [(324, tabObj ps')]) (.cons _ (.cons _ (.cons _ (.cons _ (.cons _ (.cons _ (.cons₂ _ .slnil)))))))
  exact h _ _ _ (le1.trans (le6.trans (le7.trans (le10.trans le11)))) F9.post (hT6.mono (le7.trans (le10.trans le11)))
end

-- LC2
theorem mulZ_ok {i : Nat} (hi : i < 4) : MulOk (Str.ofString "z") (i : Int) ∧ short (Txt.mul (Str.ofString "z") (i : Int)) = true ∧ (Txt.mul (Str.ofString "z") (i : Int)).length ≤ 10 := by
  rcases i with _ | _ | _ | _ | i
  · unfold MulOk; decide +kernel
  · unfold MulOk; decide +kernel
  · unfold MulOk; decide +kernel
  · unfold MulOk; decide +kernel
  · omega
section
variable {prog : Program} {w : World} {K : Frag} {env : Env} {se s s' : Shared} {S S₀ : List Addr} {R₀ R R' : Imm} {l l' : List (Str × Option Value)} {led led' l1 l1' l2 : Ledger} {A : Around} {E : Value → Shared → Prop}
theorem Keeps.refl_ (s : Shared) : Keeps s s := ⟨s.heap, s.toks, rfl, fun _ _ e => e⟩
theorem absOne_ {cenv : Env} {p1 p2 p3 : Pos} {m : Str → Option Value} {i : Int} {t : Tok} (hS : Stat K R) (hR : ∀ a o, R a = some o → s.heap.get? a = some o) (hk : cenv.scope.kind = .function) (ha : cenv.kindOf "abs" = some .globalImplicit) (ho : cenv.kindOf "one" = some .local)
    (hgl : cenv.globals = mainGlobals) (hbl : cenv.builtins = builtinsNs) (hG : Gl K "abs" (.builtin "abs")) (hn : s.heap.Ns cenv.locals m) (hm : m "one" = some (.int i t)) :
    wpAny (model prog w) A (eval (.Call (.Name "abs" p1) [.Name "one" p2] [] p3) cenv) (fun y s₃ => (∃ j u, y = .int j u) ∧ Keeps s s₃) E s := by
  obtain ⟨hs, ⟨p, lo, me, mg, mb, T⟩, X, C1, C2, e⟩ := hS
  have k : ∀ b o, hs.get? b = some o → s.heap.get? b = some o := fun a o q => hR a o (e a o q)
  refine Call_ ?_ (by with_unfolding_all rfl)
  refine Name_function_global hk ha ?_ (by decide)
  rcases hG with g | ⟨g, g4, g5⟩
  · refine loadGlobal_global (env := cenv) (by rw [hgl]; exact T.g.keeps k) (mg_of X T.g g) ?_
    refine callB1_ ?_ (by with_unfolding_all rfl) (by with_unfolding_all rfl)
    refine spliced_more ?_ (by with_unfolding_all rfl)
    refine wpAny_Name (wpAny_loadName_local hk ho hn hm ?_) (by decide)
    refine spliced_none ?_
    exact call_abs_int fun u tk => ⟨⟨_, _, rfl⟩, ⟨_, _, rfl, fun _ _ e => e⟩⟩
  · refine loadGlobal_builtin (env := cenv) (by rw [hgl]; exact T.g.keeps k) (mg_none_of X T.g g) (by rw [hbl]; exact T.b.keeps k) ((T.builtins _ g5).trans g4) ?_
    refine callB1_ ?_ (by with_unfolding_all rfl) (by with_unfolding_all rfl)
    refine spliced_more ?_ (by with_unfolding_all rfl)
    refine wpAny_Name (wpAny_loadName_local hk ho hn hm ?_) (by decide)
    refine spliced_none ?_
    exact call_abs_int fun u tk => ⟨⟨_, _, rfl⟩, ⟨_, _, rfl, fun _ _ e => e⟩⟩
noncomputable def AllInt (xs : Array Value) : Prop := ∀ v ∈ xs.toList, ∃ k u, v = .int k u
theorem paired_len {F : Value → Value → Prop} {xs ys : List Value} (h : Paired F xs ys) : ys.length = xs.length := by
  induction h with
  | nil => rfl
  | cons _ _ ih => rw [List.length_cons, List.length_cons, ih]
theorem paired_all {F : Value → Value → Prop} {P : Value → Prop} (k : ∀ a b, F a b → P b) {xs ys : List Value} (h : Paired F xs ys) : ∀ v ∈ ys, P v := by
  induction h with
  | nil => exact fun _ h => nomatch h
  | cons h1 _ ih => exact List.forall_mem_cons.mpr ⟨k _ _ h1, ih⟩
theorem absComp_ {iter : Expr} {p1 p2 p3 px pos : Pos} {scope : Scope} {Q : Value → Shared → Prop} {glb : List (Str × Value)} (G : EG K env glb) (hh : A.handled = none) (hsk : scope.kind = .function)
    (hsn : scope.names = [(Str.ofString ".0", .local), (Str.ofString "one", .local), (Str.ofString "abs", .globalImplicit)]) (hG : Gl K "abs" (.builtin "abs"))
    (h : wpAny (model prog w) A (eval iter env) (fun xv s₁ => ∃ ax items R' led', xv = .ref ax ∧ s₁.heap.IsList ax items ∧ items.size ≤ 1000 ∧ AllInt items ∧ Fm K env se S R₀ R' l led' s₁ ∧
      (∀ D o ys s', Fm K env se S R₀ R' l ((D, o) :: led') s' → IsL o ys → ys.size = items.size → AllInt ys → se.heap.get? D = none → Q (.ref D) s')) E s)
    (hs : ∀ x, foldedSetIterable iter env x = pure x := by intro _; rfl) :
    wpAny (model prog w) A (eval (.ListComp (.Call (.Name "abs" p1) [.Name "one" p2] [] p3) [⟨.Name "one" px, iter, [], 0⟩] scope pos) env) Q E s := by
  refine wpAny_ListComp_map (fun _ => true) (fun _ y => ∃ j u, y = .int j u) hh (by rw [hsn]; decide) (by rw [hsn]; decide) hsk (by rw [hsn]; decide) (by rw [hsn]; rfl) (wpAny_mono h (fun xv s₁ h₁ => ?_) fun _ _ e => e) hs
  obtain ⟨ax, items, R', led', rfl, hl, hz, hi, F, hQ⟩ := h₁
  refine ⟨ax, items, rfl, hl, by rw [sizeLine_eq]; omega, ?_, ?_, ?_⟩
  · intro C v s₂ m₂ E' _ _ _ _
    rw [List.forIn_nil]
    exact wpAny_pure ⟨rfl, Keeps.refl_ _⟩
  · intro C v s₂ m₂ E' hv _ hn hm hk
    obtain ⟨k, u, rfl⟩ := hi v (by simpa using hv)
    exact absOne_ (K := K) (R := R') F.out.ok.stat (fun a o e => hk _ _ (F.out.ok.sub a o e)) hsk (by show scope.names.lookup _ = _; rw [hsn]; rfl) (by show scope.names.lookup _ = _; rw [hsn]; rfl) G.gl G.bl hG hn hm
  · intro D h' tk ys hD hys hP hk
    obtain ⟨q1, q2, q3, q4⟩ := F.fresh hD
    obtain ⟨o, ho, hc, hd⟩ := hys
    refine hQ D o ys _ ((F.ext (t' := tk) hk).addNew q1 q2 q3 q4 ho) ⟨hc, hd⟩ ?_ (paired_all (P := fun v => ∃ k u, v = .int k u) (fun _ _ h => h) hP) q3
    have := paired_len hP
    rw [List.filter_eq_self.mpr (fun _ _ => rfl)] at this
    exact this
theorem mulZ_ {i : Nat} {t u : Tok} {Q : Value → Shared → Prop} (F : Fm K env se S R₀ R l led s) (hi : i < 4) (h : ∀ x t s', short x = true → x.length ≤ 10 → Fm K env se S R₀ R l led s' → Q (.str x t) s') : wpAny (model prog w) A (binaryOp .Mult (.str (Str.ofString "z") t) (.int i u)) Q E s := by
  refine SB.mul (mulZ_ok hi).1 fun t' k => h _ _ _ (mulZ_ok hi).2.1 (mulZ_ok hi).2.2 F.toks
end

-- LLw
theorem ints_all {vs : List Value} {ns : List Int} (h : IntsAre vs ns) : ∀ v ∈ vs, ∃ k u, v = .int k u := by
  induction h with
  | nil => exact fun _ h => nomatch h
  | cons i t _ ih => exact List.forall_mem_cons.mpr ⟨⟨i, t, rfl⟩, ih⟩
theorem feed_ints {xs : List Value} (h : ∀ v ∈ xs, ∃ k u, v = .int k u) : ∀ i, i < xs.toArray.size → ∃ k u, xs.toArray[i]? = some (.int k u) := by
  intro i hi
  rw [List.size_toArray] at hi
  obtain ⟨k, u, e⟩ := h _ (List.getElem_mem hi)
  exact ⟨k, u, by rw [List.getElem?_toArray, List.getElem?_eq_getElem hi, e]⟩
theorem post_ok (ns : List Int) : PySem.Challenge.rw_nz0407_01.row.claim.post [ofPy (PyData.list (List.map PyData.int ns))] (WData.bool true) [ofPy (PyData.list (List.map PyData.int ns))] = true := by
  wrow_post
noncomputable def blkA : List Ord := [.sim (.var "U"), .not [.sim (.var "V"), .sim (.var "GONE")], .sim .join]
noncomputable def blkB : List Ord := [.not [.not [.sim (.var "U")]]]
theorem blkA_ok : okB 2 blkA 0 = some 1 := by decide +kernel
theorem blkB_ok : okB 2 blkB 0 = some 1 := by decide +kernel
structure LwT where
  R : Imm
  of : Obj
  p : Nat
  tp : Tok
  ps : Array Value
  v : Option Value
structure LwU where
  R : Imm
  ps : Array Value
  v : Option Value
set_option maxHeartbeats 8000000 in
theorem law_holds : PySem.Challenge.rw_nz0407_01.Holds := hd (by
  k_go0
  rename_i w s₀ s₁ mg mb G0 Y0 fa o pm cd doc kV ho hcd hg X0 V0 T0 B0 TE0 TW0 ns hs0 hlay0 hL1 hr1 hl2 as1 as2 sl vs as3 hL0 ra0 w10 r00 hI hr0 hc1 hc2 hD0 h₁ X T K0 Fr0 cH N0 L0
  generalize henv : envOf _ _ _ _ _ = env
  have hlen : vs.length ≤ 63 := by have := IntsAre.length hI; omega
  obtain ⟨se, hse⟩ : ∃ se : Shared, se = { heap := ghostOf s₁.heap [(328, 324), (321, 317)], gens := s₁.gens, drawn := s₁.drawn, toks := s₁.toks, os := s₁.os } := ⟨_, rfl⟩
  have F : Fm (hd.heap_1 w.params) env se [] (fun a => (ghostOf s₁.heap [(328, 324), (321, 317)]).get? a) (fun a => (ghostOf s₁.heap [(328, 324), (321, 317)]).get? a)
      [("script", some (.ref sl)), ("feed", none), ("guarded", none), ("turn", none), ("size", none)] [(324, tabObj #[]), (317, tabObj #[])] { heap := h₁, gens := s₁.gens, drawn := s₁.drawn, toks := s₁.toks + 1, os := s₁.os } := by
    subst henv
    subst hse
    have hLn : (ghostOf s₁.heap [(328, 324), (321, 317)]).get? s₁.heap.objs.size = none := Heap.get?_none_of_le Fr0.above
    refine ⟨⟨⟨⟨_, ⟨_, _, _, _, _, T⟩, X, cH, codeHd, fun a o e => e⟩, fun a o e => Fr0.keep a o e⟩, rfl, rfl, rfl, fun a o _ e => Fr0.keep a o e, fun a o e => ⟨o, Fr0.keep a o e⟩, fun _ _ _ => rfl⟩, ⟨by decide, fun p hp => (N0 p hp).1, fun p hp => (N0 p hp).2.2⟩, fun p hp => .inr (N0 p hp).2.2, ⟨_, Fr0.ns, ?_⟩, ?_, hLn, hLn, ?_, rfl, ?_⟩
    · exact List.forall_mem_cons.mpr ⟨rfl, List.forall_mem_cons.mpr ⟨rfl, List.forall_mem_cons.mpr ⟨rfl, List.forall_mem_cons.mpr ⟨rfl, List.forall_mem_cons.mpr ⟨rfl, fun _ h => nomatch h⟩⟩⟩⟩⟩
    · exact (by decide : ([Str.ofString "script", Str.ofString "feed", Str.ofString "guarded", Str.ofString "turn", Str.ofString "size"] : List Str).Nodup)
    · intro q
      rcases List.mem_cons.mp q with q | q
      · have : s₁.heap.objs.size = 324 := q
        omega
      · rcases List.mem_cons.mp q with q | q
        · have : s₁.heap.objs.size = 317 := q
          omega
        · cases q
    · exact List.forall_mem_cons.mpr ⟨⟨rfl, rfl⟩, List.forall_mem_cons.mpr ⟨⟨rfl, rfl⟩, List.forall_mem_cons.mpr ⟨⟨rfl, rfl⟩, List.forall_mem_cons.mpr ⟨⟨rfl, rfl⟩, List.forall_mem_cons.mpr ⟨⟨rfl, rfl⟩, fun _ h => nomatch h⟩⟩⟩⟩⟩
  have G : EG (hd.heap_1 w.params) env [("_law_same", .ref 322), ("range", .type "range"), ("_law_block", .ref 294), ("_law_deeds_same", .ref 329)] := by
    subst henv
    exact ⟨rfl, rfl, List.forall_mem_cons.mpr ⟨⟨rfl, rfl, gl_same w⟩, List.forall_mem_cons.mpr ⟨⟨rfl, rfl, gl_range w⟩, List.forall_mem_cons.mpr ⟨⟨rfl, rfl, gl_block w⟩, List.forall_mem_cons.mpr ⟨⟨rfl, rfl, gl_deeds w⟩, fun _ h => nomatch h⟩⟩⟩⟩⟩
  have hA : Rm 40 (callerA.deeper env) := ⟨rfl, by show 1 + claimMargin + 1 + 40 ≤ 900; decide, by show 4 + 3 + 16 * 40 + 200 ≤ 9900; decide⟩
  have hh := hA.hd
  have hls : ∀ (s : Shared) l led R', Fm (hd.heap_1 w.params) env se [] (fun a => (ghostOf s₁.heap [(328, 324), (321, 317)]).get? a) R' l led s → s.heap.IsList sl vs.toArray := fun s l led R' F => by
    obtain ⟨ol, h1, h2⟩ := lifted
    exact ⟨ol, F.out.keep _ _ (fun h => nomatch h) (by rw [hse]; exact h1), h2⟩
  show wpAny _ _ _ _ _ { heap := h₁, gens := s₁.gens, drawn := s₁.drawn, toks := s₁.toks + 1, os := s₁.os }
  have habove : (ghostOf s₁.heap [(328, 324), (321, 317)]).objs.size ≤ env.locals := by subst henv; exact Fr0.above
  clear henv
  repeat k_all
  rename Fm _ _ _ _ _ _ _ _ _ => F
  refine absComp_ (K := (hd.heap_1 w.params)) (se := se) (S := []) (R₀ := fun a => (ghostOf s₁.heap [(328, 324), (321, 317)]).get? a) (l := [("script", some (.ref sl)), ("feed", none), ("guarded", none), ("turn", none), ("size", none)]) G hh rfl rfl (gl_abs w) ?_
  repeat k_all
  refine slice_ ?_
  refine wpAny_evalPart_none ?_
  refine wpAny_evalPart_some ?_
  repeat k_all
  rename Fm _ _ _ _ _ _ _ _ _ => F
  refine sliceTo_ F (hls _ _ _ _ F) (by decide) (by omega) ?_
  clear F
  intro sc s10 F hn_sc
  refine ⟨sc, _, _, _, rfl, F.listAt (.head _), by rw [List.size_toArray, List.length_take]; omega, fun v hv => ints_all hI v (List.mem_of_mem_take (by simpa using hv)), F, ?_⟩
  clear F
  intro D oD ys s11 F hys hsz hint hn_D
  repeat k_all
  rename Fm _ _ _ _ _ _ _ _ _ => F; refine nl_ F ?_ (Nat.le_of_ble_eq_true rfl); clear F; intro b49 s_b49 F hn_b49
  repeat k_all
  rename Fm _ _ _ _ _ _ _ _ _ => F; refine addL_ F (F.listO (.tail _ (.head _)) hys) (F.listAt (.head _)) (by rw [hsz, List.size_toArray, List.length_take, List.size_toArray]; show _ + 2 ≤ 100000; omega) ?_; clear F; intro cc s12 F hn_cc
  rename Fm _ _ _ _ _ _ _ _ _ => F
  have hR_cc := F.lgr.no _ (.head _)
  have F9 := F.freeze hn_cc
  clear F
  repeat k_all
  rename Fm _ _ _ _ _ _ _ _ _ => F; refine nl_ F ?_ (Nat.le_of_ble_eq_true rfl); clear F; intro fa2 s_fa2 F hn_fa2
  repeat k_all
  rename Fm _ _ _ _ _ _ _ _ _ => F
  have F9 := F.sublist (led' := [(fa2, _), (324, _), (317, _)]) (.cons₂ _ (.cons _ (.cons _ (.cons _ (.cons₂ _ (.cons₂ _ .slnil))))))
  clear F
  rename Fm _ _ _ _ _ _ _ _ _ => F
  have hsz2 : ys.toList.length ≤ 30 := by
    have e : ys.toList.length = ys.size := rfl
    rw [e, hsz, List.size_toArray, List.length_take]
    exact Nat.min_le_left _ _
  obtain ⟨R1, ⟨le1, hfc⟩, F⟩ := F.abs (P := fun R2 => Le (fun a => (ghostOf s₁.heap [(328, 324), (321, 317)]).get? a) R2 ∧ FeedC R2 cc _ 0) ⟨Le.put hR_cc, ⟨Imm.put_self, feed_ints (fun v hv => (List.mem_append.mp hv).elim (fun h => hint v h) fun h => by
    rcases List.mem_cons.mp h with rfl | h
    · exact ⟨_, _, rfl⟩
    · rcases List.mem_cons.mp h with rfl | h
      · exact ⟨_, _, rfl⟩
      · cases h), (by rw [List.size_toArray, List.length_append]; show 0 < _ + 2; omega), (by rw [List.size_toArray, List.length_append]; show _ + 2 ≤ 100; omega)⟩⟩
  repeat k_all
  rename Fm _ _ _ _ _ _ _ _ _ => F; refine ntR_ F ?_ (Nat.le_of_ble_eq_true rfl); clear F; intro g1 s_g1 hR_g1 F hn_g1
  repeat k_all
  rename Fm _ _ _ _ _ _ _ _ _ => F; refine ntR_ F ?_ (Nat.le_of_ble_eq_true rfl); clear F; intro g2 s_g2 hR_g2 F hn_g2
  repeat k_all
  rename Fm _ _ _ _ _ _ _ _ _ => F; refine ntR_ F ?_ (Nat.le_of_ble_eq_true rfl); clear F; intro g3 s_g3 hR_g3 F hn_g3
  repeat k_all
  rename Fm _ _ _ _ _ _ _ _ _ => F; refine nlR_ F ?_ (Nat.le_of_ble_eq_true rfl); clear F; intro g4 s_g4 hR_g4 F hn_g4
  repeat k_all
  rename Fm _ _ _ _ _ _ _ _ _ => F; refine ntR_ F ?_ (Nat.le_of_ble_eq_true rfl); clear F; intro g5 s_g5 hR_g5 F hn_g5
  repeat k_all
  rename Fm _ _ _ _ _ _ _ _ _ => F; refine ntR_ F ?_ (Nat.le_of_ble_eq_true rfl); clear F; intro g6 s_g6 hR_g6 F hn_g6
  repeat k_all
  rename Fm _ _ _ _ _ _ _ _ _ => F; refine nlR_ F ?_ (Nat.le_of_ble_eq_true rfl); clear F; intro gd s_gd hR_gd F hn_gd
  rename Fm _ _ _ _ _ _ _ _ _ => F
  obtain ⟨R2, ⟨le2, hgd, hoA⟩, F⟩ := F.abs (P := fun R2 => Le R1 R2 ∧ R2 gd = some (listOf [Value.ref g1, .ref g5, .ref g6].toArray 0) ∧ OrdsR R2 [Value.ref g1, .ref g5, .ref g6] blkA) ⟨(Le.put hR_g1).trans ((Le.put hR_g2).trans ((Le.put hR_g3).trans ((Le.put hR_g4).trans ((Le.put hR_g5).trans ((Le.put hR_g6).trans (Le.put hR_gd)))))), Imm.put_self, .cons (.sim (Le.put hR_gd _ _ (Le.put hR_g6 _ _ (Le.put hR_g5 _ _ (Le.put hR_g4 _ _ (Le.put hR_g3 _ _ (Le.put hR_g2 _ _ Imm.put_self)))))) (.s (.s .nil))) (.cons (.not (Le.put hR_gd _ _ (Le.put hR_g6 _ _ Imm.put_self)) (Le.put hR_gd _ _ (Le.put hR_g6 _ _ (Le.put hR_g5 _ _ Imm.put_self))) (.cons (.sim (Le.put hR_gd _ _ (Le.put hR_g6 _ _ (Le.put hR_g5 _ _ (Le.put hR_g4 _ _ (Le.put hR_g3 _ _ Imm.put_self))))) (.s (.s .nil))) (.cons (.sim (Le.put hR_gd _ _ (Le.put hR_g6 _ _ (Le.put hR_g5 _ _ (Le.put hR_g4 _ _ Imm.put_self)))) (.s (.s .nil))) .nil))) (.cons (.sim (Le.put hR_gd _ _ Imm.put_self) (.s .nil)) .nil))⟩
  repeat k_all
  rename Fm _ _ _ _ _ _ _ _ _ => F
  have F := F.bring2
  obtain ⟨da1, da2, da3, da4, da5, da6, da7⟩ := drawn_all blkA_ok (by decide)
  refine same_ (hA.le (by decide)) F.out.ok (F.front (l1 := [_])) hgd hoA da1 da2 da3 da4 da5 da6 da7 ⟨trivial, .inl rfl⟩ ?_
  intro s20 R3 ps1 le3 P20 hT3
  have F20 := F.after1 P20
  simp only [List.append_nil, List.cons_append, List.nil_append] at F20
  clear F
  repeat k_all
  refine if_n ?_
  refine if_t ?_
  repeat k_all
  rename Fm _ _ _ _ _ _ _ _ _ => F; refine ntR_ F ?_ (Nat.le_of_ble_eq_true rfl); clear F; intro k1 s_k1 hR_k1 F hn_k1
  repeat k_all
  rename Fm _ _ _ _ _ _ _ _ _ => F; refine nlR_ F ?_ (Nat.le_of_ble_eq_true rfl); clear F; intro k2 s_k2 hR_k2 F hn_k2
  repeat k_all
  rename Fm _ _ _ _ _ _ _ _ _ => F; refine ntR_ F ?_ (Nat.le_of_ble_eq_true rfl); clear F; intro k3 s_k3 hR_k3 F hn_k3
  repeat k_all
  rename Fm _ _ _ _ _ _ _ _ _ => F; refine nlR_ F ?_ (Nat.le_of_ble_eq_true rfl); clear F; intro k4 s_k4 hR_k4 F hn_k4
  repeat k_all
  rename Fm _ _ _ _ _ _ _ _ _ => F; refine ntR_ F ?_ (Nat.le_of_ble_eq_true rfl); clear F; intro k5 s_k5 hR_k5 F hn_k5
  repeat k_all
  rename Fm _ _ _ _ _ _ _ _ _ => F; refine nlR_ F ?_ (Nat.le_of_ble_eq_true rfl); clear F; intro k6 s_k6 hR_k6 F hn_k6
  rename Fm _ _ _ _ _ _ _ _ _ => F
  obtain ⟨R4, ⟨le4, hk6, hoB⟩, F⟩ := F.abs (P := fun R2 => Le R3 R2 ∧ R2 k6 = some (listOf [Value.ref k5].toArray 0) ∧ OrdsR R2 [Value.ref k5] blkB) ⟨(Le.put hR_k1).trans ((Le.put hR_k2).trans ((Le.put hR_k3).trans ((Le.put hR_k4).trans ((Le.put hR_k5).trans (Le.put hR_k6))))), Imm.put_self, .cons (.not (Le.put hR_k6 _ _ Imm.put_self) (Le.put hR_k6 _ _ (Le.put hR_k5 _ _ Imm.put_self)) (.cons (.not (Le.put hR_k6 _ _ (Le.put hR_k5 _ _ (Le.put hR_k4 _ _ Imm.put_self))) (Le.put hR_k6 _ _ (Le.put hR_k5 _ _ (Le.put hR_k4 _ _ (Le.put hR_k3 _ _ Imm.put_self)))) (.cons (.sim (Le.put hR_k6 _ _ (Le.put hR_k5 _ _ (Le.put hR_k4 _ _ (Le.put hR_k3 _ _ (Le.put hR_k2 _ _ Imm.put_self))))) (.s (.s .nil))) .nil)) .nil)) .nil⟩
  repeat k_all
  rename Fm _ _ _ _ _ _ _ _ _ => F
  obtain ⟨db1, db2, db3, db4, db5, db6, db7⟩ := drawn_all blkB_ok (by decide)
  refine same_ (hA.le (by decide)) F.out.ok (F.front (l1 := [_])) hk6 hoB db1 db2 db3 db4 db5 db6 db7 (hT3.mono le4) ?_
  intro s21 R5 ps2 le5 P21 hT5
  have F21 := F.after1 P21
  simp only [List.append_nil, List.cons_append, List.nil_append] at F21
  clear F
  repeat k_all
  refine if_n ?_
  refine if_t ?_
  repeat k_all
  refine For_ ?_
  repeat k_all
  rename Fm _ _ _ _ _ _ _ _ _ => F
  refine range_ (n := ((4 : Nat) : Int)) (t := 0) F ?_
  clear F; intro ra t30 t31 s30 F hn_ra
  repeat k_all
  rename Fm _ _ _ _ _ _ _ _ _ => F
  refine iterR_ F (by decide) ?_
  clear F; intro it s31 hn_it F
  refine forR_all (τ := LwT) (n := 4) (fun c => c.R) (fun c => [("script", some (.ref sl)), ("feed", some (.ref fa2)), ("guarded", some (.ref gd)), ("turn", c.v), ("size", none)]) (fun c v => [("script", some (.ref sl)), ("feed", some (.ref fa2)), ("guarded", some (.ref gd)), ("turn", some v), ("size", none)])
    (fun c => [(317, tabObj c.ps), (fa2, c.of), (324, tabObj #[])]) (fun i y => Le R5 y.R ∧ y.p ≤ i * 836 ∧ IsL y.of #[.ref cc, .int (y.p : Int) y.tp] ∧ TabI y.R posS (Str.ofString "_law_same.<locals>.<lambda>") y.ps)
    hh hn_it (fun c v => .tail (.tail (.tail .head))) ?turn1 ?done1 _ _ ⟨R5, _, 0, _, ps2, none⟩ _ (Nat.zero_add _) ⟨.refl, Nat.le_refl _, ⟨rfl, _, rfl⟩, hT5⟩ F
  case turn1 =>
    clear F
    intro i ti y s40 o40 hi hy F
    obtain ⟨R6, of6, p6, tp6, ps6, v6⟩ := y
    obtain ⟨y1, y2, y3, y4⟩ := hy
    dsimp only at F y1 y2 y3 y4
    repeat k_all
    rename Fm _ _ _ _ _ _ _ _ _ => F
    have F := F.bring2
    refine block_ 2 (hA.le (by decide)) F.out.ok (F.front (l1 := [_])) y3 (hfc.mono (le2.trans (le3.trans (le4.trans (le5.trans y1))))) (by show p6 + 836 ≤ 100000; omega) ?_
    intro b7 cl7 vs7 n7 os7 hgt7 th7 k7 p7 of7 tp7 R7 s7 hp7 hf7 P7 le7 hb7 hcl7 hos7 hok7 hlen7
    have F7 := F.after1 P7
    simp only [List.append_nil, List.cons_append, List.nil_append] at F7
    clear F
    repeat k_all
    rename Fm _ _ _ _ _ _ _ _ _ => F; refine itemT_ (its := [_, _]) (F.tupR hb7) (by decide) rfl (Nat.le_of_ble_eq_true rfl) ?_
    repeat k_all
    rename Fm _ _ _ _ _ _ _ _ _ => F
    have F := F.bring2
    obtain ⟨dc1, dc2, dc3, dc4, dc5, dc6, dc7⟩ := drawn_all hok7 hlen7
    refine same_ (hA.le (by decide)) F.out.ok (F.front (l1 := [_])) hcl7 hos7 dc1 dc2 dc3 dc4 dc5 dc6 dc7 (y4.mono le7) ?_
    intro s8 R8 ps8 le8 P8 hT8
    have F8 := F.after1 P8
    simp only [List.append_nil, List.cons_append, List.nil_append] at F8
    clear F
    repeat k_all
    refine if_n ?_
    refine if_t ?_
    repeat k_all
    rename Fm _ _ _ _ _ _ _ _ _ => F
    have F := F.bring2
    exact turnK_next ⟨R8, of7, p7, tp7, ps8, _⟩ ⟨y1.trans (le7.trans le8), (by show p7 ≤ (i + 1) * 836; have : bud 2 = 836 := rfl; omega), hf7, hT8⟩ F
  case done1 =>
    clear F
    intro y s41 hy F
    obtain ⟨R6, of6, p6, tp6, ps6, v6⟩ := y
    obtain ⟨y1, y2, y3, y4⟩ := hy
    dsimp only at F y1 y2 y3 y4
    have F := F.sublist (led' := [(317, tabObj ps6), (324, tabObj #[])]) (.cons₂ _ (.cons _ (.cons₂ _ .slnil)))
    repeat k_all
    refine For_ ?_
    repeat k_all
    rename Fm _ _ _ _ _ _ _ _ _ => F
    refine range_ (n := ((4 : Nat) : Int)) (t := 0) F ?_
    clear F; intro ra2 t32 t33 s42 F hn_ra2
    repeat k_all
    rename Fm _ _ _ _ _ _ _ _ _ => F
    refine iterR_ F (by decide) ?_
    clear F; intro it2 s43 hn_it2 F
    have F := F.swap2
    refine forR_all (τ := LwU) (n := 4) (fun c => c.R) (fun c => [("script", some (.ref sl)), ("feed", some (.ref fa2)), ("guarded", some (.ref gd)), ("turn", v6), ("size", c.v)]) (fun c v => [("script", some (.ref sl)), ("feed", some (.ref fa2)), ("guarded", some (.ref gd)), ("turn", v6), ("size", some v)])
      (fun c => [(324, tabObj c.ps), (317, tabObj ps6)]) (fun i y => TabI y.R posD (Str.ofString "_law_deeds_same.<locals>.<lambda>") y.ps)
      hh hn_it2 (fun c v => .tail (.tail (.tail (.tail .head)))) ?turn2 ?done2 _ _ ⟨R6, #[], none⟩ _ (Nat.zero_add _) ⟨trivial, .inl rfl⟩ F
    case turn2 =>
      clear F
      intro i ti y s50 o50 hi hy F
      obtain ⟨R7, ps7, v7⟩ := y
      dsimp only at F hy
      repeat k_all
      rename Fm _ _ _ _ _ _ _ _ _ => F
      refine mulZ_ F hi ?_
      clear F; intro z1 tz1 s51 hz1 hz1l F
      repeat k_all
      rename Fm _ _ _ _ _ _ _ _ _ => F
      have F := F.swap
      refine deedsT_ (hA.le (by decide)) F.out.ok (F.front (l1 := [_])) hz1l hz1 hy ?_
      intro s8 R8 ps8 le8 P8 hT8
      have F8 := F.after1 P8
      simp only [List.append_nil, List.cons_append, List.nil_append] at F8
      clear F
      repeat k_all
      refine if_n ?_
      refine if_t ?_
      repeat k_all
      rename Fm _ _ _ _ _ _ _ _ _ => F
      refine mulZ_ F hi ?_
      clear F; intro z2 tz2 s52 hz2 hz2l F
      repeat k_all
      rename Fm _ _ _ _ _ _ _ _ _ => F
      refine deedsF_ (hA.le (by decide)) F.out.ok (F.front (l1 := [_])) hz2l hz2 hT8 ?_
      intro s9 R9 ps9 le9 P9 hT9
      have F9 := F.after1 P9
      simp only [List.append_nil, List.cons_append, List.nil_append] at F9
      clear F
      repeat k_all
      refine if_n ?_
      refine if_t ?_
      repeat k_all
      rename Fm _ _ _ _ _ _ _ _ _ => F
      exact turnK_next ⟨R9, ps9, _⟩ hT9 F.swap
    case done2 =>
      clear F
      intro y s53 hy F
      obtain ⟨R7, ps7, v7⟩ := y
      dsimp only at F hy
      repeat k_all
      rename Fm _ _ _ _ _ _ _ _ _ => F
      refine ⟨?_, ⟨_, F.lgr.here (324, _) (.head _)⟩, ⟨_, F.lgr.here (317, _) (.tail _ (.head _))⟩, trivial⟩
      obtain ⟨mL, hnL, _⟩ := F.ns
      refine goodW_bool (L := env.locals) (m := mL) ⟨hnL, fun b o e => F.out.keep b o (fun h => nomatch h) (by rw [hse]; exact e), habove⟩ (F.out.gens.trans (by rw [hse]; exact hg)) (fun cls => rfl) ?_ (F.out.os.trans (by rw [hse]))
      exact post_ok ns)
end Mine

theorem PySem.Challenge.cw_nz0407_01_holds : PySem.Challenge.rw_nz0407_01.Holds :=
  Mine.law_holds
