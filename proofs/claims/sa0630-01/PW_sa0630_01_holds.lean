import PyProof.Rows.All
import Wide.All
import OpenK.AllK
import Wide.FinOn
import PySem.Challenge.RW_sa0630_01
open PySem PySem.W PySem.Calls PyProof.Rows
set_option Elab.async false
set_option maxRecDepth 100000
set_option maxHeartbeats 8000000
set_option linter.unusedVariables false
set_option linter.unusedSimpArgs false
set_option pp.deepTerms false
namespace Mine
/-- the text without its names for itself -/
noncomputable def topViewS : { q : Program // { PySem.Challenge.pw_sa0630_01 with main := { PySem.Challenge.pw_sa0630_01.main with body := (PySem.Challenge.pw_sa0630_01.main.body.eraseIdx 30).eraseIdx 0 } } = q } := by
  apply Subtype.mk
  dsimp only [PySem.Challenge.pw_sa0630_01, List.eraseIdx]
noncomputable def topView : Program := topViewS.1
local macro_rules | `(tactic| o_head $H) => `(tactic| (
  refine holds_open (q := topView) (loose := [PySem.Str.ofString "KEPT"]) (Xt := fun s => xlAt topView [(PySem.Str.ofString "KEPT", WData.int 196)] s && recOk (RowW.records PySem.Challenge.rw_sa0630_01.row.toRowW) s) (XP := XL topView [(PySem.Str.ofString "KEPT", WData.int 196)]) (Yf := Hook.obs $H) (Ya := Hook.val $H) (YP := Hook.says $H) (N := 2094) ?hl (Hook.of $H) (Hook.keeps $H) (fun s e => xl_of s (Bool.and_eq_true_iff.mp e).1) XL.keeps (by rfl) (by rfl) (by rfl) (fun s e => recFacts_of (Bool.and_eq_true_iff.mp e).2) (by rfl) (by first | assumption | decide +kernel) (by decide +kernel) ⟨rfl, rfl, rfl, rfl, rfl, by decide +kernel⟩ ?hw ?hc
  (case hl => intro w; kernel_rfl)))
open_top hd for PySem.Challenge.rw_sa0630_01
theorem top_off : True := by
  w_top off
  trivial

/- part 0 -/
noncomputable abbrev Led := List (Addr × Obj)
noncomputable abbrev tupO (vs : Array Value) (c : Nat) : Obj := { cls := .type "tuple", data := .seq vs c }
/-- what a call of the def at `f` does from any frame over the ledger `news`: it comes back with `Out` -/
noncomputable def Does (w : World) (d : Nat) (f : Addr) (news : Led) (vs : List Value) (Out : Value → Led → Prop) : Prop :=
  ∀ (loose : List Str) (mean : ExcName → Option Value) (mg mb : Str → Option Value) (dp un : Nat) (gd : Option (List Code)) (cn : Str) (cs : Scope) (a : Addr) (ccd : Value) (cl : List (Str × Addr)) (outer : List Env) (A₀ : Around) (base h₀ : Heap) (L : Addr) (m : Str → Option Value) (s : Shared) (Q E : Value → Shared → Prop),
    Below A₀ base outer h₀ → Fr h₀ L s.heap m → (hd.heap_39 w.params).In h₀ → News h₀ L s.heap news → Top topView loose mean mg mb h₀ → cs.kind = .function →
    dp + d < recursionLimit → un + 8 * d < cLine →
    (∀ r news' h' tk', Fr h₀ L h' m → News h₀ L h' news' → Out r news' → Q r { s with heap := h', toks := tk' }) →
    wpAny (model PySem.Challenge.pw_sa0630_01 w) (ktrTop dp un gd cn cs L a ccd cl outer) (call (.ref f) vs) Q E s

theorem Does.use {w : World} {d : Nat} {f : Addr} {news : Led} {vs : List Value} {Out : Value → Led → Prop} (D : Does w d f news vs Out)
    {loose : List Str} {mean : ExcName → Option Value} {mg mb : Str → Option Value} {dp un : Nat} {gd : Option (List Code)} {cn : Str} {cs : Scope} {a : Addr} {ccd : Value} {cl : List (Str × Addr)} {outer : List Env} {A₀ : Around} {base h₀ : Heap} {L : Addr} {m : Str → Option Value} {s : Shared} {Q E : Value → Shared → Prop}
    (B : Below A₀ base outer h₀) (F : Fr h₀ L s.heap m) (X : (hd.heap_39 w.params).In h₀) (N : News h₀ L s.heap news) (T : Top topView loose mean mg mb h₀) (hk : cs.kind = .function)
    (hd : dp + d < recursionLimit) (hu : un + 8 * d < cLine)
    (hret : ∀ r news' h' tk', Fr h₀ L h' m → News h₀ L h' news' → Out r news' → Q r { s with heap := h', toks := tk' }) :
    wpAny (model PySem.Challenge.pw_sa0630_01 w) (ktrTop dp un gd cn cs L a ccd cl outer) (call (.ref f) vs) Q E s :=
  D _ _ _ _ _ _ _ _ _ _ _ _ _ _ _ _ _ _ _ _ _ B F X N T hk hd hu hret

theorem fill0 {P : Prop} (_ : hd.heap_39 = hd.heap_39 ∧ PySem.Challenge.rw_sa0630_01 = PySem.Challenge.rw_sa0630_01) (h : P) : P := h

/-- it hands back an int -/
noncomputable abbrev OutI (news : Led) (x : Int) : Value → Led → Prop := fun r news' => news' = news ∧ ∃ t, r = .int x t
/-- it hands back a new pair of ints -/
noncomputable abbrev OutT (news : Led) (x y : Int) : Value → Led → Prop := fun r news' => ∃ D t u c, r = .ref D ∧ AllLt D news ∧ news' = (D, tupO #[.int x t, .int y u] c) :: news
/-- it hands back a new triple of ints -/
noncomputable abbrev OutT3 (news : Led) (x y z : Int) : Value → Led → Prop := fun r news' => ∃ D t u v c, r = .ref D ∧ AllLt D news ∧ news' = (D, tupO #[.int x t, .int y u, .int z v] c) :: news

theorem Does.useI {w : World} {d : Nat} {f : Addr} {news : Led} {vs : List Value} {x : Int} (D : Does w d f news vs (OutI news x))
    {loose : List Str} {mean : ExcName → Option Value} {mg mb : Str → Option Value} {dp un : Nat} {gd : Option (List Code)} {cn : Str} {cs : Scope} {a : Addr} {ccd : Value} {cl : List (Str × Addr)} {outer : List Env} {A₀ : Around} {base h₀ : Heap} {L : Addr} {m : Str → Option Value} {s : Shared} {Q E : Value → Shared → Prop}
    (B : Below A₀ base outer h₀) (F : Fr h₀ L s.heap m) (X : (hd.heap_39 w.params).In h₀) (N : News h₀ L s.heap news) (T : Top topView loose mean mg mb h₀) (hk : cs.kind = .function)
    (hd : dp + d < recursionLimit) (hu : un + 8 * d < cLine)
    (hret : ∀ t h' tk', Fr h₀ L h' m → News h₀ L h' news → Q (.int x t) { s with heap := h', toks := tk' }) :
    wpAny (model PySem.Challenge.pw_sa0630_01 w) (ktrTop dp un gd cn cs L a ccd cl outer) (call (.ref f) vs) Q E s :=
  D _ _ _ _ _ _ _ _ _ _ _ _ _ _ _ _ _ _ _ _ _ B F X N T hk hd hu fun _ _ _ _ F' N' O => by obtain ⟨rfl, t, rfl⟩ := O; exact hret _ _ _ F' N'
theorem Does.useT {w : World} {d : Nat} {f : Addr} {news : Led} {vs : List Value} {x y : Int} (D : Does w d f news vs (OutT news x y))
    {loose : List Str} {mean : ExcName → Option Value} {mg mb : Str → Option Value} {dp un : Nat} {gd : Option (List Code)} {cn : Str} {cs : Scope} {a : Addr} {ccd : Value} {cl : List (Str × Addr)} {outer : List Env} {A₀ : Around} {base h₀ : Heap} {L : Addr} {m : Str → Option Value} {s : Shared} {Q E : Value → Shared → Prop}
    (B : Below A₀ base outer h₀) (F : Fr h₀ L s.heap m) (X : (hd.heap_39 w.params).In h₀) (N : News h₀ L s.heap news) (T : Top topView loose mean mg mb h₀) (hk : cs.kind = .function)
    (hd : dp + d < recursionLimit) (hu : un + 8 * d < cLine)
    (hret : ∀ D t u c h' tk', Fr h₀ L h' m → News h₀ L h' ((D, tupO #[.int x t, .int y u] c) :: news) → AllLt D news → Q (.ref D) { s with heap := h', toks := tk' }) :
    wpAny (model PySem.Challenge.pw_sa0630_01 w) (ktrTop dp un gd cn cs L a ccd cl outer) (call (.ref f) vs) Q E s :=
  D _ _ _ _ _ _ _ _ _ _ _ _ _ _ _ _ _ _ _ _ _ B F X N T hk hd hu fun _ _ _ _ F' N' O => by obtain ⟨D, t, u, c, rfl, hl, rfl⟩ := O; exact hret _ _ _ _ _ _ F' N' hl
theorem Does.useT3 {w : World} {d : Nat} {f : Addr} {news : Led} {vs : List Value} {x y z : Int} (D : Does w d f news vs (OutT3 news x y z))
    {loose : List Str} {mean : ExcName → Option Value} {mg mb : Str → Option Value} {dp un : Nat} {gd : Option (List Code)} {cn : Str} {cs : Scope} {a : Addr} {ccd : Value} {cl : List (Str × Addr)} {outer : List Env} {A₀ : Around} {base h₀ : Heap} {L : Addr} {m : Str → Option Value} {s : Shared} {Q E : Value → Shared → Prop}
    (B : Below A₀ base outer h₀) (F : Fr h₀ L s.heap m) (X : (hd.heap_39 w.params).In h₀) (N : News h₀ L s.heap news) (T : Top topView loose mean mg mb h₀) (hk : cs.kind = .function)
    (hd : dp + d < recursionLimit) (hu : un + 8 * d < cLine)
    (hret : ∀ D t u v c h' tk', Fr h₀ L h' m → News h₀ L h' ((D, tupO #[.int x t, .int y u, .int z v] c) :: news) → AllLt D news → Q (.ref D) { s with heap := h', toks := tk' }) :
    wpAny (model PySem.Challenge.pw_sa0630_01 w) (ktrTop dp un gd cn cs L a ccd cl outer) (call (.ref f) vs) Q E s :=
  D _ _ _ _ _ _ _ _ _ _ _ _ _ _ _ _ _ _ _ _ _ B F X N T hk hd hu fun _ _ _ _ F' N' O => by obtain ⟨D, t, u, v, c, rfl, hl, rfl⟩ := O; exact hret _ _ _ _ _ _ _ F' N' hl
section
variable {h₀ h' : Heap} {L D : Addr} {m : Str → Option Value} {news news' : Led} {s : Shared} {Q : Value → Shared → Prop} {x y x' y' z z' : Int} {t u v : Tok} {c tk' : Nat}
theorem does_int
    (hret : ∀ r news' h' tk', Fr h₀ L h' m → News h₀ L h' news' → OutI news x r news' → Q r { s with heap := h', toks := tk' }) (F : Fr h₀ L h' m) (N : News h₀ L h' news') (hs : ∀ p ∈ news, p ∈ news') (e : y = x) : Q (.int y t) { s with heap := h', toks := tk' } :=
  hret _ _ _ _ F (fun p hp => N p (hs p hp)) ⟨rfl, t, e ▸ rfl⟩
theorem does_tup
    (hret : ∀ r news' h' tk', Fr h₀ L h' m → News h₀ L h' news' → OutT news x y r news' → Q r { s with heap := h', toks := tk' }) (F : Fr h₀ L h' m) (N : News h₀ L h' ((D, tupO #[.int x' t, .int y' u] c) :: news')) (hs : ∀ p ∈ news, p ∈ news') (hl : AllLt D news) (e : x' = x) (e' : y' = y) : Q (.ref D) { s with heap := h', toks := tk' } := by
  subst e; subst e'
  exact hret _ ((D, tupO #[.int x' t, .int y' u] c) :: news) _ _ F (fun p hp => N p ((List.mem_cons.mp hp).elim (fun e => e ▸ .head _) fun h => .tail _ (hs p h))) ⟨D, t, u, c, rfl, hl, rfl⟩
theorem does_tup3
    (hret : ∀ r news' h' tk', Fr h₀ L h' m → News h₀ L h' news' → OutT3 news x y z r news' → Q r { s with heap := h', toks := tk' }) (F : Fr h₀ L h' m) (N : News h₀ L h' ((D, tupO #[.int x' t, .int y' u, .int z' v] c) :: news')) (hs : ∀ p ∈ news, p ∈ news') (hl : AllLt D news) (e : x' = x) (e' : y' = y) (e'' : z' = z) : Q (.ref D) { s with heap := h', toks := tk' } := by
  subst e; subst e'; subst e''
  exact hret _ ((D, tupO #[.int x' t, .int y' u, .int z' v] c) :: news) _ _ F (fun p hp => N p ((List.mem_cons.mp hp).elim (fun e => e ▸ .head _) fun h => .tail _ (hs p h))) ⟨D, t, u, v, c, rfl, hl, rfl⟩
end
theorem Does.useIB {w : World} {d : Nat} {f : Addr} {news : Led} {vs : List Value} {x : Int}
    {loose : List Str} {mean : ExcName → Option Value} {mg mb : Str → Option Value} {dp un : Nat} {gd : Option (List Code)} {cn : Str} {cs : Scope} {a : Addr} {ccd : Value} {cl : List (Str × Addr)} {outer : List Env} {A₀ : Around} {base h₀ : Heap} {L : Addr} {m : Str → Option Value} {s : Shared} {Q E : Value → Shared → Prop}
    (B : Below A₀ base outer h₀) (F : Fr h₀ L s.heap m) (X : (hd.heap_39 w.params).In h₀) (N : News h₀ L s.heap news) (T : Top topView loose mean mg mb h₀) (D : Does w d f news vs (OutI news x)) (hk : cs.kind = .function)
    (hd : dp + d < recursionLimit) (hu : un + 8 * d < cLine)
    (hret : ∀ t h' tk', Fr h₀ L h' m → News h₀ L h' news → Q (.int x t) { s with heap := h', toks := tk' }) :
    wpAny (model PySem.Challenge.pw_sa0630_01 w) (ktrTop dp un gd cn cs L a ccd cl outer) (call (.ref f) vs) Q E s :=
  D.useI B F X N T hk hd hu hret
theorem Does.useTB {w : World} {d : Nat} {f : Addr} {news : Led} {vs : List Value} {x y : Int}
    {loose : List Str} {mean : ExcName → Option Value} {mg mb : Str → Option Value} {dp un : Nat} {gd : Option (List Code)} {cn : Str} {cs : Scope} {a : Addr} {ccd : Value} {cl : List (Str × Addr)} {outer : List Env} {A₀ : Around} {base h₀ : Heap} {L : Addr} {m : Str → Option Value} {s : Shared} {Q E : Value → Shared → Prop}
    (B : Below A₀ base outer h₀) (F : Fr h₀ L s.heap m) (X : (hd.heap_39 w.params).In h₀) (N : News h₀ L s.heap news) (T : Top topView loose mean mg mb h₀) (D : Does w d f news vs (OutT news x y)) (hk : cs.kind = .function)
    (hd : dp + d < recursionLimit) (hu : un + 8 * d < cLine)
    (hret : ∀ D t u c h' tk', Fr h₀ L h' m → News h₀ L h' ((D, tupO #[.int x t, .int y u] c) :: news) → AllLt D news → Q (.ref D) { s with heap := h', toks := tk' }) :
    wpAny (model PySem.Challenge.pw_sa0630_01 w) (ktrTop dp un gd cn cs L a ccd cl outer) (call (.ref f) vs) Q E s :=
  D.useT B F X N T hk hd hu hret
theorem Does.useT3B {w : World} {d : Nat} {f : Addr} {news : Led} {vs : List Value} {x y z : Int}
    {loose : List Str} {mean : ExcName → Option Value} {mg mb : Str → Option Value} {dp un : Nat} {gd : Option (List Code)} {cn : Str} {cs : Scope} {a : Addr} {ccd : Value} {cl : List (Str × Addr)} {outer : List Env} {A₀ : Around} {base h₀ : Heap} {L : Addr} {m : Str → Option Value} {s : Shared} {Q E : Value → Shared → Prop}
    (B : Below A₀ base outer h₀) (F : Fr h₀ L s.heap m) (X : (hd.heap_39 w.params).In h₀) (N : News h₀ L s.heap news) (T : Top topView loose mean mg mb h₀) (D : Does w d f news vs (OutT3 news x y z)) (hk : cs.kind = .function)
    (hd : dp + d < recursionLimit) (hu : un + 8 * d < cLine)
    (hret : ∀ D t u v c h' tk', Fr h₀ L h' m → News h₀ L h' ((D, tupO #[.int x t, .int y u, .int z v] c) :: news) → AllLt D news → Q (.ref D) { s with heap := h', toks := tk' }) :
    wpAny (model PySem.Challenge.pw_sa0630_01 w) (ktrTop dp un gd cn cs L a ccd cl outer) (call (.ref f) vs) Q E s :=
  D.useT3 B F X N T hk hd hu hret
theorem room_of {a d e R x : Nat} (h : a + d < R) (hx : x = a + 1) (he : 1 + e ≤ d) : x + e < R := by omega
theorem units_of {a d e R x : Nat} (h : a + 8 * d < R) (hx : x = a + 3) (he : 3 + 8 * e ≤ 8 * d) : x + 8 * e < R := by omega
theorem units_of64 {a d R x : Nat} (h : a + 8 * d < R) (hx : x = a + 3) (he : 3 + 64 ≤ 8 * d) : x + 64 < R := by omega
local macro_rules | `(tactic| ktr_room) => `(tactic| exact room_of (by assumption) rfl (by decide))
local macro_rules | `(tactic| ktr_units) => `(tactic| first | exact units_of (by assumption) rfl (by decide) | exact units_of64 (by assumption) rfl (by decide))
local macro_rules | `(tactic| walk_at "mine end") => `(tactic| ((try dsimp only); (try k_sweep); (try k_fold)))

/- part 1 -/
noncomputable def szyxF (v : Int) : Int := Builtin.bitOr (Builtin.bitAnd v (Builtin.bitOr 128 40)) (if v = 0 then 64 else 0)
theorem szyx_does (w : World) (news : Led) (v : Int) (tv : Tok) : Does w 1 28 news [.int v tv] (OutI news (szyxF v)) := by
  unfold Does
  intro loose mean mg mb dp un gd cn cs a₀ ccd cl outer A₀ base h₀ L m s Q E B F X N T hk hdp hun hret
  refine fill0 (by k_fill; exact ⟨rfl, rfl⟩) ?_
  refine wpAny_call ?_
  k_dflt cell_enter
  k_steps
  all_goals (refine does_int hret (by k_asm) (by k_asm) (by intro p hp; first | exact hp | exact List.Mem.tail _ hp | exact List.Mem.tail _ (List.Mem.tail _ hp) | (simp only [List.mem_cons]; simp [hp])) ?_)
  all_goals (try law_clear)
  all_goals (first | (simp_all [szyxF]; done) | (simp_all [-Int.not_lt, szyxF]; done))
local macro_rules | `(tactic| walk_at "call ref") => `(tactic| (k_here; (with_reducible show wpAny _ _ (call (Value.ref 28) _) _ _ _); k_dflt (refine Does.useIB (by k_asm) (by k_asm) (by k_asm) (by k_asm) (by k_asm) (szyx_does _ _ _ _) (by first | exact rfl | assumption) (by ktr_room) (by ktr_units) ?_); intro t9 h9 tk9 F9 N9; walk_at "mine end"))
noncomputable def parityF (v : Int) : Int :=
  let a := Builtin.bitXor v (v.fdiv (2 ^ Int.toNat 4))
  let b := Builtin.bitXor a (a.fdiv (2 ^ Int.toNat 2))
  let c := Builtin.bitXor b (b.fdiv (2 ^ Int.toNat 1))
  if Builtin.bitAnd c 1 = 0 then 4 else 0
theorem parity_does (w : World) (news : Led) (v : Int) (tv : Tok) : Does w 1 21 news [.int v tv] (OutI news (parityF v)) := by
  unfold Does
  intro loose mean mg mb dp un gd cn cs a₀ ccd cl outer A₀ base h₀ L m s Q E B F X N T hk hdp hun hret
  refine fill0 (by k_fill; exact ⟨rfl, rfl⟩) ?_
  refine wpAny_call ?_
  k_dflt cell_enter
  k_steps
  all_goals (refine does_int hret (by k_asm) (by k_asm) (by intro p hp; first | exact hp | exact List.Mem.tail _ hp | exact List.Mem.tail _ (List.Mem.tail _ hp) | (simp only [List.mem_cons]; simp [hp])) ?_)
  all_goals (try law_clear)
  all_goals (first | (simp_all [parityF]; done) | (simp_all [-Int.not_lt, parityF]; done))
local macro_rules | `(tactic| walk_at "call ref") => `(tactic| (k_here; (with_reducible show wpAny _ _ (call (Value.ref 21) _) _ _ _); k_dflt (refine Does.useIB (by k_asm) (by k_asm) (by k_asm) (by k_asm) (by k_asm) (parity_does _ _ _ _) (by first | exact rfl | assumption) (by ktr_room) (by ktr_units) ?_); intro t9 h9 tk9 F9 N9; walk_at "mine end"))
noncomputable def add8R (a b c : Int) : Int := Builtin.bitAnd (a + b + c) 255
noncomputable def add8O (a b c : Int) : Int := Builtin.bitAnd (Builtin.bitAnd (Builtin.bitXor a (add8R a b c)) (Builtin.bitXor b (add8R a b c))) 128
noncomputable def add8F (a b c : Int) : Int := Builtin.bitOr (Builtin.bitOr (Builtin.bitOr (szyxF (add8R a b c)) (Builtin.bitAnd (Builtin.bitXor (Builtin.bitXor a b) (add8R a b c)) 16)) (if add8O a b c = 0 then 0 else 4)) ((a + b + c).fdiv (2 ^ Int.toNat 8))
theorem add8_does (w : World) (news : Led) (a : Int) (ta : Tok) (b : Int) (tb : Tok) (c : Int) (tc : Tok) : Does w 2 35 news [.int a ta, .int b tb, .int c tc] (OutT news (add8R a b c) (add8F a b c)) := by
  unfold Does
  intro loose mean mg mb dp un gd cn cs a₀ ccd cl outer A₀ base h₀ L m s Q E B F X N T hk hdp hun hret
  refine fill0 (by k_fill; exact ⟨rfl, rfl⟩) ?_
  refine wpAny_call ?_
  k_dflt cell_enter
  k_steps
  all_goals (refine does_tup hret (by k_asm) (by k_asm) (by intro p hp; first | exact hp | exact List.Mem.tail _ hp | exact List.Mem.tail _ (List.Mem.tail _ hp) | (simp only [List.mem_cons]; simp [hp])) (by first | assumption | exact allLt_of (by assumption) | (simp only [AllLt] at *; simp_all)) ?_ ?_)
  all_goals (try law_clear)
  all_goals (first | (simp_all [add8R, add8O, add8F]; done) | (simp_all [-Int.not_lt, add8R, add8O, add8F]; done))
local macro_rules | `(tactic| walk_at "call ref") => `(tactic| (k_here; (with_reducible show wpAny _ _ (call (Value.ref 35) _) _ _ _); k_dflt (refine Does.useTB (by k_asm) (by k_asm) (by k_asm) (by k_asm) (by k_asm) (add8_does _ _ _ _ _ _ _ _) (by first | exact rfl | assumption) (by ktr_room) (by ktr_units) ?_); intro D9 t9 u9 c9 h9 tk9 F9 N9 l9; (try simp only [AllLt, and_true] at l9); walk_at "mine end"))
noncomputable def sub8R (a b c : Int) : Int := Builtin.bitAnd (a - b - c) 255
noncomputable def sub8O (a b c : Int) : Int := Builtin.bitAnd (Builtin.bitAnd (Builtin.bitXor a b) (Builtin.bitXor a (sub8R a b c))) 128
noncomputable def sub8F (a b c : Int) : Int := Builtin.bitOr (Builtin.bitOr (Builtin.bitOr (Builtin.bitOr (szyxF (sub8R a b c)) (Builtin.bitAnd (Builtin.bitXor (Builtin.bitXor a b) (sub8R a b c)) 16)) (if sub8O a b c = 0 then 0 else 4)) 2) (if a - b - c < 0 then 1 else 0)
theorem sub8_does (w : World) (news : Led) (a : Int) (ta : Tok) (b : Int) (tb : Tok) (c : Int) (tc : Tok) : Does w 2 42 news [.int a ta, .int b tb, .int c tc] (OutT news (sub8R a b c) (sub8F a b c)) := by
  unfold Does
  intro loose mean mg mb dp un gd cn cs a₀ ccd cl outer A₀ base h₀ L m s Q E B F X N T hk hdp hun hret
  refine fill0 (by k_fill; exact ⟨rfl, rfl⟩) ?_
  refine wpAny_call ?_
  k_dflt cell_enter
  k_steps
  all_goals (refine does_tup hret (by k_asm) (by k_asm) (by intro p hp; first | exact hp | exact List.Mem.tail _ hp | exact List.Mem.tail _ (List.Mem.tail _ hp) | (simp only [List.mem_cons]; simp [hp])) (by first | assumption | exact allLt_of (by assumption) | (simp only [AllLt] at *; simp_all)) ?_ ?_)
  all_goals (try law_clear)
  all_goals (first | (simp_all [sub8R, sub8O, sub8F]; done) | (simp_all [-Int.not_lt, sub8R, sub8O, sub8F]; done))
local macro_rules | `(tactic| walk_at "call ref") => `(tactic| (k_here; (with_reducible show wpAny _ _ (call (Value.ref 42) _) _ _ _); k_dflt (refine Does.useTB (by k_asm) (by k_asm) (by k_asm) (by k_asm) (by k_asm) (sub8_does _ _ _ _ _ _ _ _) (by first | exact rfl | assumption) (by ktr_room) (by ktr_units) ?_); intro D9 t9 u9 c9 h9 tk9 F9 N9 l9; (try simp only [AllLt, and_true] at l9); walk_at "mine end"))
noncomputable def highF (x y r : Int) : Int := Builtin.bitOr (Builtin.bitAnd (r.fdiv (2 ^ Int.toNat 8)) 40) (Builtin.bitAnd ((Builtin.bitXor (Builtin.bitXor x y) r).fdiv (2 ^ Int.toNat 8)) 16)
theorem high_flags_does (w : World) (news : Led) (x : Int) (tx : Tok) (y : Int) (ty : Tok) (r : Int) (tr : Tok) : Does w 1 49 news [.int x tx, .int y ty, .int r tr] (OutI news (highF x y r)) := by
  unfold Does
  intro loose mean mg mb dp un gd cn cs a₀ ccd cl outer A₀ base h₀ L m s Q E B F X N T hk hdp hun hret
  refine fill0 (by k_fill; exact ⟨rfl, rfl⟩) ?_
  refine wpAny_call ?_
  k_dflt cell_enter
  k_steps
  all_goals (refine does_int hret (by k_asm) (by k_asm) (by intro p hp; first | exact hp | exact List.Mem.tail _ hp | exact List.Mem.tail _ (List.Mem.tail _ hp) | (simp only [List.mem_cons]; simp [hp])) ?_)
  all_goals (try law_clear)
  all_goals (first | (simp_all [highF]; done) | (simp_all [-Int.not_lt, highF]; done))
local macro_rules | `(tactic| walk_at "call ref") => `(tactic| (k_here; (with_reducible show wpAny _ _ (call (Value.ref 49) _) _ _ _); k_dflt (refine Does.useIB (by k_asm) (by k_asm) (by k_asm) (by k_asm) (by k_asm) (high_flags_does _ _ _ _ _ _ _ _) (by first | exact rfl | assumption) (by ktr_room) (by ktr_units) ?_); intro t9 h9 tk9 F9 N9; walk_at "mine end"))
noncomputable def add16R (x y : Int) : Int := Builtin.bitAnd (x + y) 65535
noncomputable def add16F (x y f : Int) : Int := Builtin.bitOr (Builtin.bitOr (Builtin.bitAnd f 196) (highF x y (add16R x y))) ((x + y).fdiv (2 ^ Int.toNat 16))
theorem add16_does (w : World) (news : Led) (x : Int) (tx : Tok) (y : Int) (ty : Tok) (f : Int) (tf : Tok) : Does w 2 56 news [.int x tx, .int y ty, .int f tf] (OutT news (add16R x y) (add16F x y f)) := by
  unfold Does
  intro loose mean mg mb dp un gd cn cs a₀ ccd cl outer A₀ base h₀ L m s Q E B F X N T hk hdp hun hret
  refine fill0 (by k_fill; exact ⟨rfl, rfl⟩) ?_
  refine wpAny_call ?_
  k_dflt cell_enter
  k_steps
  all_goals (refine does_tup hret (by k_asm) (by k_asm) (by intro p hp; first | exact hp | exact List.Mem.tail _ hp | exact List.Mem.tail _ (List.Mem.tail _ hp) | (simp only [List.mem_cons]; simp [hp])) (by first | assumption | exact allLt_of (by assumption) | (simp only [AllLt] at *; simp_all)) ?_ ?_)
  all_goals (try law_clear)
  all_goals (first | (simp_all [add16R, add16F]; done) | (simp_all [-Int.not_lt, add16R, add16F]; done))
local macro_rules | `(tactic| walk_at "call ref") => `(tactic| (k_here; (with_reducible show wpAny _ _ (call (Value.ref 56) _) _ _ _); k_dflt (refine Does.useTB (by k_asm) (by k_asm) (by k_asm) (by k_asm) (by k_asm) (add16_does _ _ _ _ _ _ _ _) (by first | exact rfl | assumption) (by ktr_room) (by ktr_units) ?_); intro D9 t9 u9 c9 h9 tk9 F9 N9 l9; (try simp only [AllLt, and_true] at l9); walk_at "mine end"))
noncomputable def wordF (r : Int) : Int := Builtin.bitOr (Builtin.bitAnd (r.fdiv (2 ^ Int.toNat 8)) 128) (if r = 0 then 64 else 0)
theorem word_flags_does (w : World) (news : Led) (r : Int) (tr : Tok) : Does w 1 63 news [.int r tr] (OutI news (wordF r)) := by
  unfold Does
  intro loose mean mg mb dp un gd cn cs a₀ ccd cl outer A₀ base h₀ L m s Q E B F X N T hk hdp hun hret
  refine fill0 (by k_fill; exact ⟨rfl, rfl⟩) ?_
  refine wpAny_call ?_
  k_dflt cell_enter
  k_steps
  all_goals (refine does_int hret (by k_asm) (by k_asm) (by intro p hp; first | exact hp | exact List.Mem.tail _ hp | exact List.Mem.tail _ (List.Mem.tail _ hp) | (simp only [List.mem_cons]; simp [hp])) ?_)
  all_goals (try law_clear)
  all_goals (first | (simp_all [wordF]; done) | (simp_all [-Int.not_lt, wordF]; done))
local macro_rules | `(tactic| walk_at "call ref") => `(tactic| (k_here; (with_reducible show wpAny _ _ (call (Value.ref 63) _) _ _ _); k_dflt (refine Does.useIB (by k_asm) (by k_asm) (by k_asm) (by k_asm) (by k_asm) (word_flags_does _ _ _ _) (by first | exact rfl | assumption) (by ktr_room) (by ktr_units) ?_); intro t9 h9 tk9 F9 N9; walk_at "mine end"))
noncomputable def adc16R (x y c : Int) : Int := Builtin.bitAnd (x + y + c) 65535
noncomputable def adc16O (x y c : Int) : Int := Builtin.bitAnd (Builtin.bitAnd (Builtin.bitXor x (adc16R x y c)) (Builtin.bitXor y (adc16R x y c))) 32768
noncomputable def adc16F (x y c : Int) : Int := Builtin.bitOr (Builtin.bitOr (Builtin.bitOr (wordF (adc16R x y c)) (highF x y (adc16R x y c))) (if adc16O x y c = 0 then 0 else 4)) ((x + y + c).fdiv (2 ^ Int.toNat 16))
theorem adc16_does (w : World) (news : Led) (x : Int) (tx : Tok) (y : Int) (ty : Tok) (c : Int) (tc : Tok) : Does w 2 70 news [.int x tx, .int y ty, .int c tc] (OutT news (adc16R x y c) (adc16F x y c)) := by
  unfold Does
  intro loose mean mg mb dp un gd cn cs a₀ ccd cl outer A₀ base h₀ L m s Q E B F X N T hk hdp hun hret
  refine fill0 (by k_fill; exact ⟨rfl, rfl⟩) ?_
  refine wpAny_call ?_
  k_dflt cell_enter
  k_steps
  all_goals (refine does_tup hret (by k_asm) (by k_asm) (by intro p hp; first | exact hp | exact List.Mem.tail _ hp | exact List.Mem.tail _ (List.Mem.tail _ hp) | (simp only [List.mem_cons]; simp [hp])) (by first | assumption | exact allLt_of (by assumption) | (simp only [AllLt] at *; simp_all)) ?_ ?_)
  all_goals (try law_clear)
  all_goals (first | (simp_all [adc16R, adc16O, adc16F]; done) | (simp_all [-Int.not_lt, adc16R, adc16O, adc16F]; done))
local macro_rules | `(tactic| walk_at "call ref") => `(tactic| (k_here; (with_reducible show wpAny _ _ (call (Value.ref 70) _) _ _ _); k_dflt (refine Does.useTB (by k_asm) (by k_asm) (by k_asm) (by k_asm) (by k_asm) (adc16_does _ _ _ _ _ _ _ _) (by first | exact rfl | assumption) (by ktr_room) (by ktr_units) ?_); intro D9 t9 u9 c9 h9 tk9 F9 N9 l9; (try simp only [AllLt, and_true] at l9); walk_at "mine end"))
noncomputable def sbc16R (x y c : Int) : Int := Builtin.bitAnd (x - y - c) 65535
noncomputable def sbc16O (x y c : Int) : Int := Builtin.bitAnd (Builtin.bitAnd (Builtin.bitXor x y) (Builtin.bitXor x (sbc16R x y c))) 32768
noncomputable def sbc16F (x y c : Int) : Int := Builtin.bitOr (Builtin.bitOr (Builtin.bitOr (Builtin.bitOr (wordF (sbc16R x y c)) (highF x y (sbc16R x y c))) (if sbc16O x y c = 0 then 0 else 4)) 2) (if x - y - c < 0 then 1 else 0)
theorem sbc16_does (w : World) (news : Led) (x : Int) (tx : Tok) (y : Int) (ty : Tok) (c : Int) (tc : Tok) : Does w 2 77 news [.int x tx, .int y ty, .int c tc] (OutT news (sbc16R x y c) (sbc16F x y c)) := by
  unfold Does
  intro loose mean mg mb dp un gd cn cs a₀ ccd cl outer A₀ base h₀ L m s Q E B F X N T hk hdp hun hret
  refine fill0 (by k_fill; exact ⟨rfl, rfl⟩) ?_
  refine wpAny_call ?_
  k_dflt cell_enter
  k_steps
  all_goals (refine does_tup hret (by k_asm) (by k_asm) (by intro p hp; first | exact hp | exact List.Mem.tail _ hp | exact List.Mem.tail _ (List.Mem.tail _ hp) | (simp only [List.mem_cons]; simp [hp])) (by first | assumption | exact allLt_of (by assumption) | (simp only [AllLt] at *; simp_all)) ?_ ?_)
  all_goals (try law_clear)
  all_goals (first | (simp_all [sbc16R, sbc16O, sbc16F]; done) | (simp_all [-Int.not_lt, sbc16R, sbc16O, sbc16F]; done))
local macro_rules | `(tactic| walk_at "call ref") => `(tactic| (k_here; (with_reducible show wpAny _ _ (call (Value.ref 77) _) _ _ _); k_dflt (refine Does.useTB (by k_asm) (by k_asm) (by k_asm) (by k_asm) (by k_asm) (sbc16_does _ _ _ _ _ _ _ _) (by first | exact rfl | assumption) (by ktr_room) (by ktr_units) ?_); intro D9 t9 u9 c9 h9 tk9 F9 N9 l9; (try simp only [AllLt, and_true] at l9); walk_at "mine end"))
theorem allLt_mem {d : Addr} {news : Led} (h : AllLt d news) : ∀ p ∈ news, p.1 ≠ d := by
  induction news with
  | nil => intro p hp; cases hp
  | cons q r ih => intro p hp; rcases List.mem_cons.mp hp with rfl | hp; exact Nat.ne_of_lt h.1; exact ih h.2 p hp
theorem allLt_fun {d : Addr} {news : Led} (h : ∀ p ∈ news, p.1 < d) : ∀ p ∈ news, p.1 ≠ d := fun p hp => Nat.ne_of_lt (h p hp)
local macro_rules | `(tactic| k_all) => `(tactic| first | exact allLt_mem (by assumption) | exact allLt_fun (by assumption))
local macro_rules | `(tactic| walk_at "eval Dict") => `(tactic| (k_here; k_dflt (refine kdn_eval (knd := PySem.intKind _ _) (by k_asm) (by k_asm) (by exact Top.nolimit (by k_asm)) (by rfl) (by rfl) (by exact List.cons_ne_nil _ _) (by exact Nat.le_of_ble_eq_true rfl) ?_); intro d' h' o' F' N' l1 lo' hd'; (try k_lt l1); (try k_sweep)))
noncomputable def turnR (k v f : Int) : Int :=
  if k = 2 then Builtin.bitOr (Builtin.bitAnd (v * 2 ^ Int.toNat 1) 255) (Builtin.bitAnd f 1)
  else if k = 4 then Builtin.bitOr (Builtin.bitAnd (v * 2 ^ Int.toNat 1) 255) 0
  else Builtin.bitOr (v.fdiv (2 ^ Int.toNat 1)) (if k = 3 then Builtin.bitAnd f 1 * 2 ^ Int.toNat 7 else if k = 5 then v.fdiv (2 ^ Int.toNat 7) * 2 ^ Int.toNat 7 else 0 * 2 ^ Int.toNat 7)
noncomputable def turnO (k v : Int) : Int := if k = 2 ∨ k = 4 then v.fdiv (2 ^ Int.toNat 7) else Builtin.bitAnd v 1
noncomputable def Kind (k : Int) : Prop := k = 2 ∨ k = 4 ∨ k = 3 ∨ k = 5 ∨ k = 7
theorem turned2_does (w : World) (news : Led) (tk : Tok) (v : Int) (tv : Tok) (f : Int) (tf : Tok) (hv0 : 0 ≤ v) (hv1 : v < 256) : Does w 1 84 news [.int 2 tk, .int v tv, .int f tf] (OutT news (turnR 2 v f) (turnO 2 v)) := by
  have hb0 := (bitAnd_range f (y := 1) (by decide)).1
  have hb1 := (bitAnd_range f (y := 1) (by decide)).2
  unfold Does
  intro loose mean mg mb dp un gd cn cs a₀ ccd cl outer A₀ base h₀ L m s Q E B F X N T hk hdp hun hret
  refine fill0 (by k_fill; exact ⟨rfl, rfl⟩) ?_
  refine wpAny_call ?_
  k_dflt cell_enter
  k_steps
  all_goals (refine does_tup hret (by k_asm) (by k_asm) (by intro p hp; first | exact hp | exact List.Mem.tail _ hp | exact List.Mem.tail _ (List.Mem.tail _ hp) | (simp only [List.mem_cons]; simp [hp])) (by first | assumption | exact allLt_of (by assumption) | (simp only [AllLt] at *; simp_all)) ?_ ?_)
  all_goals (try law_clear)
  all_goals simp [turnR, turnO]
theorem turned3_does (w : World) (news : Led) (tk : Tok) (v : Int) (tv : Tok) (f : Int) (tf : Tok) (hv0 : 0 ≤ v) (hv1 : v < 256) : Does w 1 84 news [.int 3 tk, .int v tv, .int f tf] (OutT news (turnR 3 v f) (turnO 3 v)) := by
  have hb0 := (bitAnd_range f (y := 1) (by decide)).1
  have hb1 := (bitAnd_range f (y := 1) (by decide)).2
  unfold Does
  intro loose mean mg mb dp un gd cn cs a₀ ccd cl outer A₀ base h₀ L m s Q E B F X N T hk hdp hun hret
  refine fill0 (by k_fill; exact ⟨rfl, rfl⟩) ?_
  refine wpAny_call ?_
  k_dflt cell_enter
  k_steps
  all_goals (refine does_tup hret (by k_asm) (by k_asm) (by intro p hp; first | exact hp | exact List.Mem.tail _ hp | exact List.Mem.tail _ (List.Mem.tail _ hp) | (simp only [List.mem_cons]; simp [hp])) (by first | assumption | exact allLt_of (by assumption) | (simp only [AllLt] at *; simp_all)) ?_ ?_)
  all_goals (try law_clear)
  all_goals simp [turnR, turnO]
theorem turned4_does (w : World) (news : Led) (tk : Tok) (v : Int) (tv : Tok) (f : Int) (tf : Tok) (hv0 : 0 ≤ v) (hv1 : v < 256) : Does w 1 84 news [.int 4 tk, .int v tv, .int f tf] (OutT news (turnR 4 v f) (turnO 4 v)) := by
  have hb0 := (bitAnd_range f (y := 1) (by decide)).1
  have hb1 := (bitAnd_range f (y := 1) (by decide)).2
  unfold Does
  intro loose mean mg mb dp un gd cn cs a₀ ccd cl outer A₀ base h₀ L m s Q E B F X N T hk hdp hun hret
  refine fill0 (by k_fill; exact ⟨rfl, rfl⟩) ?_
  refine wpAny_call ?_
  k_dflt cell_enter
  k_steps
  all_goals (refine does_tup hret (by k_asm) (by k_asm) (by intro p hp; first | exact hp | exact List.Mem.tail _ hp | exact List.Mem.tail _ (List.Mem.tail _ hp) | (simp only [List.mem_cons]; simp [hp])) (by first | assumption | exact allLt_of (by assumption) | (simp only [AllLt] at *; simp_all)) ?_ ?_)
  all_goals (try law_clear)
  all_goals simp [turnR, turnO]
theorem turned5_does (w : World) (news : Led) (tk : Tok) (v : Int) (tv : Tok) (f : Int) (tf : Tok) (hv0 : 0 ≤ v) (hv1 : v < 256) : Does w 1 84 news [.int 5 tk, .int v tv, .int f tf] (OutT news (turnR 5 v f) (turnO 5 v)) := by
  have hb0 := (bitAnd_range f (y := 1) (by decide)).1
  have hb1 := (bitAnd_range f (y := 1) (by decide)).2
  unfold Does
  intro loose mean mg mb dp un gd cn cs a₀ ccd cl outer A₀ base h₀ L m s Q E B F X N T hk hdp hun hret
  refine fill0 (by k_fill; exact ⟨rfl, rfl⟩) ?_
  refine wpAny_call ?_
  k_dflt cell_enter
  k_steps
  all_goals (refine does_tup hret (by k_asm) (by k_asm) (by intro p hp; first | exact hp | exact List.Mem.tail _ hp | exact List.Mem.tail _ (List.Mem.tail _ hp) | (simp only [List.mem_cons]; simp [hp])) (by first | assumption | exact allLt_of (by assumption) | (simp only [AllLt] at *; simp_all)) ?_ ?_)
  all_goals (try law_clear)
  all_goals simp [turnR, turnO]
theorem turned7_does (w : World) (news : Led) (tk : Tok) (v : Int) (tv : Tok) (f : Int) (tf : Tok) (hv0 : 0 ≤ v) (hv1 : v < 256) : Does w 1 84 news [.int 7 tk, .int v tv, .int f tf] (OutT news (turnR 7 v f) (turnO 7 v)) := by
  have hb0 := (bitAnd_range f (y := 1) (by decide)).1
  have hb1 := (bitAnd_range f (y := 1) (by decide)).2
  unfold Does
  intro loose mean mg mb dp un gd cn cs a₀ ccd cl outer A₀ base h₀ L m s Q E B F X N T hk hdp hun hret
  refine fill0 (by k_fill; exact ⟨rfl, rfl⟩) ?_
  refine wpAny_call ?_
  k_dflt cell_enter
  k_steps
  all_goals (refine does_tup hret (by k_asm) (by k_asm) (by intro p hp; first | exact hp | exact List.Mem.tail _ hp | exact List.Mem.tail _ (List.Mem.tail _ hp) | (simp only [List.mem_cons]; simp [hp])) (by first | assumption | exact allLt_of (by assumption) | (simp only [AllLt] at *; simp_all)) ?_ ?_)
  all_goals (try law_clear)
  all_goals simp [turnR, turnO]
theorem turned_does (w : World) (news : Led) (k : Int) (tk : Tok) (v : Int) (tv : Tok) (f : Int) (tf : Tok) (hk : Kind k) (hv0 : 0 ≤ v) (hv1 : v < 256) : Does w 1 84 news [.int k tk, .int v tv, .int f tf] (OutT news (turnR k v f) (turnO k v)) := by
  rcases hk with rfl | rfl | rfl | rfl | rfl
  · exact turned2_does _ _ _ _ _ _ _ hv0 hv1
  · exact turned4_does _ _ _ _ _ _ _ hv0 hv1
  · exact turned3_does _ _ _ _ _ _ _ hv0 hv1
  · exact turned5_does _ _ _ _ _ _ _ hv0 hv1
  · exact turned7_does _ _ _ _ _ _ _ hv0 hv1
local macro_rules | `(tactic| walk_at "call ref") => `(tactic| (k_here; (with_reducible show wpAny _ _ (call (Value.ref 84) _) _ _ _); k_dflt (refine Does.useTB (by k_asm) (by k_asm) (by k_asm) (by k_asm) (by k_asm) (turned_does _ _ _ _ _ _ _ _ (by assumption) (by assumption) (by assumption)) (by first | exact rfl | assumption) (by ktr_room) (by ktr_units) ?_); intro D9 t9 u9 c9 h9 tk9 F9 N9 l9; (try simp only [AllLt, and_true] at l9); walk_at "mine end"))
noncomputable def rotF (k v f : Int) : Int := Builtin.bitOr (Builtin.bitOr (szyxF (turnR k v f)) (parityF (turnR k v f))) (turnO k v)
theorem rotate_does (w : World) (news : Led) (k : Int) (tk : Tok) (v : Int) (tv : Tok) (f : Int) (tf : Tok) (hkind : Kind k) (hv0 : 0 ≤ v) (hv1 : v < 256) : Does w 2 91 news [.int k tk, .int v tv, .int f tf] (OutT news (turnR k v f) (rotF k v f)) := by
  unfold Does
  intro loose mean mg mb dp un gd cn cs a₀ ccd cl outer A₀ base h₀ L m s Q E B F X N T hk hdp hun hret
  refine fill0 (by k_fill; exact ⟨rfl, rfl⟩) ?_
  refine wpAny_call ?_
  k_dflt cell_enter
  k_steps
  all_goals (refine does_tup hret (by k_asm) (by k_asm) (by intro p hp; first | exact hp | exact List.Mem.tail _ hp | exact List.Mem.tail _ (List.Mem.tail _ hp) | (simp only [List.mem_cons]; simp [hp])) (by first | assumption | exact allLt_of (by assumption) | (simp only [AllLt] at *; simp_all)) ?_ ?_)
  all_goals (try law_clear)
  all_goals simp [rotF]
local macro_rules | `(tactic| walk_at "call ref") => `(tactic| (k_here; (with_reducible show wpAny _ _ (call (Value.ref 91) _) _ _ _); k_dflt (refine Does.useTB (by k_asm) (by k_asm) (by k_asm) (by k_asm) (by k_asm) (rotate_does _ _ _ _ _ _ _ _ (by assumption) (by assumption) (by assumption)) (by first | exact rfl | assumption) (by ktr_room) (by ktr_units) ?_); intro D9 t9 u9 c9 h9 tk9 F9 N9 l9; (try simp only [AllLt, and_true] at l9); walk_at "mine end"))
noncomputable def rrdA (a v : Int) : Int := Builtin.bitOr (Builtin.bitAnd a 240) (Builtin.bitAnd v 15)
noncomputable def rrdV (a v : Int) : Int := Builtin.bitOr (Builtin.bitAnd a 15 * 2 ^ Int.toNat 4) (v.fdiv (2 ^ Int.toNat 4))
noncomputable def rldA (a v : Int) : Int := Builtin.bitOr (Builtin.bitAnd a 240) (v.fdiv (2 ^ Int.toNat 4))
noncomputable def rldV (a v : Int) : Int := Builtin.bitOr (Builtin.bitAnd v 15 * 2 ^ Int.toNat 4) (Builtin.bitAnd a 15)
noncomputable def rdF (r f : Int) : Int := Builtin.bitOr (Builtin.bitOr (szyxF r) (parityF r)) (Builtin.bitAnd f 1)
theorem rrd_does (w : World) (news : Led) (a : Int) (ta : Tok) (v : Int) (tv : Tok) (f : Int) (tf : Tok) : Does w 2 98 news [.int a ta, .int v tv, .int f tf] (OutT3 news (rrdA a v) (rrdV a v) (rdF (rrdA a v) f)) := by
  have hb0 := (bitAnd_range a (y := 15) (by decide)).1
  have hb1 := (bitAnd_range a (y := 15) (by decide)).2
  have hc0 := (bitAnd_range v (y := 15) (by decide)).1
  have hc1 := (bitAnd_range v (y := 15) (by decide)).2
  unfold Does
  intro loose mean mg mb dp un gd cn cs a₀ ccd cl outer A₀ base h₀ L m s Q E B F X N T hk hdp hun hret
  refine fill0 (by k_fill; exact ⟨rfl, rfl⟩) ?_
  refine wpAny_call ?_
  k_dflt cell_enter
  k_steps
  all_goals (refine does_tup3 hret (by k_asm) (by k_asm) (by intro p hp; first | exact hp | exact List.Mem.tail _ hp | exact List.Mem.tail _ (List.Mem.tail _ hp) | (simp only [List.mem_cons]; simp [hp])) (by first | assumption | exact allLt_of (by assumption) | (simp only [AllLt] at *; simp_all)) ?_ ?_ ?_)
  all_goals (try law_clear)
  all_goals simp [rrdA, rrdV, rdF]
local macro_rules | `(tactic| walk_at "call ref") => `(tactic| (k_here; (with_reducible show wpAny _ _ (call (Value.ref 98) _) _ _ _); k_dflt (refine Does.useT3B (by k_asm) (by k_asm) (by k_asm) (by k_asm) (by k_asm) (rrd_does _ _ _ _ _ _ _ _) (by first | exact rfl | assumption) (by ktr_room) (by ktr_units) ?_); intro D9 t9 u9 v9 c9 h9 tk9 F9 N9 l9; (try simp only [AllLt, and_true] at l9); walk_at "mine end"))
theorem rld_does (w : World) (news : Led) (a : Int) (ta : Tok) (v : Int) (tv : Tok) (f : Int) (tf : Tok) : Does w 2 105 news [.int a ta, .int v tv, .int f tf] (OutT3 news (rldA a v) (rldV a v) (rdF (rldA a v) f)) := by
  have hb0 := (bitAnd_range a (y := 15) (by decide)).1
  have hb1 := (bitAnd_range a (y := 15) (by decide)).2
  have hc0 := (bitAnd_range v (y := 15) (by decide)).1
  have hc1 := (bitAnd_range v (y := 15) (by decide)).2
  unfold Does
  intro loose mean mg mb dp un gd cn cs a₀ ccd cl outer A₀ base h₀ L m s Q E B F X N T hk hdp hun hret
  refine fill0 (by k_fill; exact ⟨rfl, rfl⟩) ?_
  refine wpAny_call ?_
  k_dflt cell_enter
  k_steps
  all_goals (refine does_tup3 hret (by k_asm) (by k_asm) (by intro p hp; first | exact hp | exact List.Mem.tail _ hp | exact List.Mem.tail _ (List.Mem.tail _ hp) | (simp only [List.mem_cons]; simp [hp])) (by first | assumption | exact allLt_of (by assumption) | (simp only [AllLt] at *; simp_all)) ?_ ?_ ?_)
  all_goals (try law_clear)
  all_goals simp [rldA, rldV, rdF]
local macro_rules | `(tactic| walk_at "call ref") => `(tactic| (k_here; (with_reducible show wpAny _ _ (call (Value.ref 105) _) _ _ _); k_dflt (refine Does.useT3B (by k_asm) (by k_asm) (by k_asm) (by k_asm) (by k_asm) (rld_does _ _ _ _ _ _ _ _) (by first | exact rfl | assumption) (by ktr_room) (by ktr_units) ?_); intro D9 t9 u9 v9 c9 h9 tk9 F9 N9 l9; (try simp only [AllLt, and_true] at l9); walk_at "mine end"))

/- part 2 -/

/-- it hands back a new list of ints -/
noncomputable abbrev OutL (news : Led) (xs : List Int) : Value → Led → Prop := fun r news' => ∃ D vs n, r = .ref D ∧ LCg.Off1 D news ∧ IntsAre vs xs ∧ news' = (D, listOf vs.toArray n) :: news
/-- it hands back a new pair of a new list of ints and an int -/
noncomputable abbrev OutP (news : Led) (xs : List Int) (x : Int) : Value → Led → Prop := fun r news' => ∃ P D vs n t c, r = .ref P ∧ LCg.Off1 D news ∧ LCg.Off1 P ((D, listOf vs.toArray n) :: news) ∧ IntsAre vs xs ∧ news' = (P, tupO #[.ref D, .int x t] c) :: (D, listOf vs.toArray n) :: news
/-- it hands back a bool -/
noncomputable abbrev OutB (news : Led) (b : Bool) : Value → Led → Prop := fun r news' => r = .bool b ∧ news' = news
theorem off1_lt {d : Addr} : ∀ {news : Led}, AllLt d news → LCg.Off1 d news
  | [], _ => trivial
  | _ :: _, h => ⟨Nat.ne_of_lt h.1, off1_lt h.2⟩
theorem off1_fun {d : Addr} : ∀ {news : Led}, (∀ p ∈ news, p.1 < d) → LCg.Off1 d news
  | [], _ => trivial
  | _ :: _, h => ⟨Nat.ne_of_lt (h _ (.head _)), off1_fun fun p hp => h p (.tail _ hp)⟩
theorem off1_of {d : Addr} : ∀ {news : Led}, (∀ p ∈ news, p.1 ≠ d) → LCg.Off1 d news
  | [], _ => trivial
  | _ :: _, h => ⟨h _ (.head _), off1_of fun p hp => h p (.tail _ hp)⟩
theorem off1_mem {d : Addr} : ∀ {news : Led}, LCg.Off1 d news → ∀ p ∈ news, p.1 ≠ d
  | [], _, _, hp => nomatch hp
  | _ :: _, h, p, hp => by
    rcases List.mem_cons.mp hp with rfl | hp
    · exact h.1
    · exact off1_mem h.2 p hp
theorem Does.useL {w : World} {d : Nat} {f : Addr} {news : Led} {vs : List Value} {xs : List Int} (D : Does w d f news vs (OutL news xs))
    {loose : List Str} {mean : ExcName → Option Value} {mg mb : Str → Option Value} {dp un : Nat} {gd : Option (List Code)} {cn : Str} {cs : Scope} {a : Addr} {ccd : Value} {cl : List (Str × Addr)} {outer : List Env} {A₀ : Around} {base h₀ : Heap} {L : Addr} {m : Str → Option Value} {s : Shared} {Q E : Value → Shared → Prop}
    (B : Below A₀ base outer h₀) (F : Fr h₀ L s.heap m) (X : (hd.heap_39 w.params).In h₀) (N : News h₀ L s.heap news) (T : Top topView loose mean mg mb h₀) (hk : cs.kind = .function)
    (hd : dp + d < recursionLimit) (hu : un + 8 * d < cLine)
    (hret : ∀ D us n h' tk', Fr h₀ L h' m → News h₀ L h' ((D, listOf us.toArray n) :: news) → LCg.Off1 D news → IntsAre us xs → Q (.ref D) { s with heap := h', toks := tk' }) :
    wpAny (model PySem.Challenge.pw_sa0630_01 w) (ktrTop dp un gd cn cs L a ccd cl outer) (call (.ref f) vs) Q E s :=
  D _ _ _ _ _ _ _ _ _ _ _ _ _ _ _ _ _ _ _ _ _ B F X N T hk hd hu fun _ _ _ _ F' N' O => by obtain ⟨D, us, n, rfl, hl, hi, rfl⟩ := O; exact hret _ _ _ _ _ F' N' hl hi
theorem Does.useP {w : World} {d : Nat} {f : Addr} {news : Led} {vs : List Value} {xs : List Int} {x : Int} (D : Does w d f news vs (OutP news xs x))
    {loose : List Str} {mean : ExcName → Option Value} {mg mb : Str → Option Value} {dp un : Nat} {gd : Option (List Code)} {cn : Str} {cs : Scope} {a : Addr} {ccd : Value} {cl : List (Str × Addr)} {outer : List Env} {A₀ : Around} {base h₀ : Heap} {L : Addr} {m : Str → Option Value} {s : Shared} {Q E : Value → Shared → Prop}
    (B : Below A₀ base outer h₀) (F : Fr h₀ L s.heap m) (X : (hd.heap_39 w.params).In h₀) (N : News h₀ L s.heap news) (T : Top topView loose mean mg mb h₀) (hk : cs.kind = .function)
    (hd : dp + d < recursionLimit) (hu : un + 8 * d < cLine)
    (hret : ∀ P D us n t c h' tk', Fr h₀ L h' m → News h₀ L h' ((P, tupO #[.ref D, .int x t] c) :: (D, listOf us.toArray n) :: news) → LCg.Off1 D news → LCg.Off1 P ((D, listOf us.toArray n) :: news) → IntsAre us xs → Q (.ref P) { s with heap := h', toks := tk' }) :
    wpAny (model PySem.Challenge.pw_sa0630_01 w) (ktrTop dp un gd cn cs L a ccd cl outer) (call (.ref f) vs) Q E s :=
  D _ _ _ _ _ _ _ _ _ _ _ _ _ _ _ _ _ _ _ _ _ B F X N T hk hd hu fun _ _ _ _ F' N' O => by obtain ⟨P, D, us, n, t, c, rfl, hl, hp, hi, rfl⟩ := O; exact hret _ _ _ _ _ _ _ _ F' N' hl hp hi
theorem Does.useB {w : World} {d : Nat} {f : Addr} {news : Led} {vs : List Value} {b : Bool} (D : Does w d f news vs (OutB news b))
    {loose : List Str} {mean : ExcName → Option Value} {mg mb : Str → Option Value} {dp un : Nat} {gd : Option (List Code)} {cn : Str} {cs : Scope} {a : Addr} {ccd : Value} {cl : List (Str × Addr)} {outer : List Env} {A₀ : Around} {base h₀ : Heap} {L : Addr} {m : Str → Option Value} {s : Shared} {Q E : Value → Shared → Prop}
    (B : Below A₀ base outer h₀) (F : Fr h₀ L s.heap m) (X : (hd.heap_39 w.params).In h₀) (N : News h₀ L s.heap news) (T : Top topView loose mean mg mb h₀) (hk : cs.kind = .function)
    (hd : dp + d < recursionLimit) (hu : un + 8 * d < cLine)
    (hret : ∀ h' tk', Fr h₀ L h' m → News h₀ L h' news → Q (.bool b) { s with heap := h', toks := tk' }) :
    wpAny (model PySem.Challenge.pw_sa0630_01 w) (ktrTop dp un gd cn cs L a ccd cl outer) (call (.ref f) vs) Q E s :=
  D _ _ _ _ _ _ _ _ _ _ _ _ _ _ _ _ _ _ _ _ _ B F X N T hk hd hu fun _ _ _ _ F' N' O => by obtain ⟨rfl, rfl⟩ := O; exact hret _ _ F' N'

section
variable {h₀ h' : Heap} {L D P : Addr} {m : Str → Option Value} {news news' : Led} {s : Shared} {Q : Value → Shared → Prop} {vs : List Value} {xs xs' : List Int} {x x' : Int} {t : Tok} {c n tk' : Nat}
theorem does_list
    (hret : ∀ r news' h' tk', Fr h₀ L h' m → News h₀ L h' news' → OutL news xs r news' → Q r { s with heap := h', toks := tk' }) (F : Fr h₀ L h' m) (N : News h₀ L h' ((D, listOf vs.toArray n) :: news')) (hs : ∀ p ∈ news, p ∈ news') (hl : LCg.Off1 D news) (hi : IntsAre vs xs') (e : xs' = xs) : Q (.ref D) { s with heap := h', toks := tk' } := by
  subst e
  exact hret _ ((D, listOf vs.toArray n) :: news) _ _ F (fun p hp => N p ((List.mem_cons.mp hp).elim (fun e => e ▸ .head _) fun h => .tail _ (hs p h))) ⟨D, vs, n, rfl, hl, hi, rfl⟩
theorem does_pair
    (hret : ∀ r news' h' tk', Fr h₀ L h' m → News h₀ L h' news' → OutP news xs x r news' → Q r { s with heap := h', toks := tk' }) (F : Fr h₀ L h' m) (N : News h₀ L h' ((P, tupO #[.ref D, .int x' t] c) :: news')) (hm : (D, listOf vs.toArray n) ∈ news') (hs : ∀ p ∈ news, p ∈ news') (hl : LCg.Off1 D news) (hP : LCg.Off1 P ((D, listOf vs.toArray n) :: news)) (hi : IntsAre vs xs') (e : xs' = xs) (e' : x' = x) : Q (.ref P) { s with heap := h', toks := tk' } := by
  subst e; subst e'
  refine hret _ ((P, tupO #[.ref D, .int x' t] c) :: (D, listOf vs.toArray n) :: news) _ _ F (fun p hp => N p ?_) ⟨P, D, vs, n, t, c, rfl, hl, hP, hi, rfl⟩
  rcases List.mem_cons.mp hp with rfl | hp
  · exact .head _
  rcases List.mem_cons.mp hp with rfl | hp
  · exact .tail _ hm
  · exact .tail _ (hs p hp)
theorem does_bool {b b' : Bool}
    (hret : ∀ r news' h' tk', Fr h₀ L h' m → News h₀ L h' news' → OutB news b r news' → Q r { s with heap := h', toks := tk' }) (F : Fr h₀ L h' m) (N : News h₀ L h' news') (hs : ∀ p ∈ news, p ∈ news') (e : b' = b) : Q (.bool b') { s with heap := h', toks := tk' } :=
  hret _ _ _ _ F (fun p hp => N p (hs p hp)) ⟨e ▸ rfl, rfl⟩
end

section
variable {prog : Program} {w : World} {A : Around} {E : Value → Shared → Prop} {s : Shared} {env : Env} {h₀ : Heap} {target : Expr} {body : List Stmt} {Q : Flow → Shared → Prop} {ws : List (Addr × String)} {keep : Led}
theorem allObj_mono : ∀ {ws : List (Addr × String)} {k k' : Led → Prop}, AllObj ws k → (∀ its, its.map (·.1) = ws.map (·.1) → k its → k' its) → AllObj ws k'
  | [], _, _, h, hk => hk [] rfl h
  | _ :: _, _, _, h, hk => fun o ho => allObj_mono (h o ho) fun its e x => hk _ (by simp [e]) x

/-- a loop by what holds ahead of each turn, said of the items that are left -/
theorem items_ind (R : List Itm → (Str → Option Value) → Led → Prop)
    (step : ∀ a r m news, R (a :: r) m news → ∀ v h tk, a.Is v h → Fr h₀ env.locals h m → AllObj ws (fun its => News h₀ env.locals h (its ++ news) →
      wpAny (model prog w) A (assign target env v) (fun _ s₂ => wpAny (model prog w) A (execs body env) (UnrPostW h₀ env.locals { s with heap := h, toks := tk } its (fun m' n' => SubL keep n' ∧ R r m' n') Q) E s₂) E { s with heap := h, toks := tk }))
    (done : ∀ m news, R [] m news → ∀ h tk, Fr h₀ env.locals h m → News h₀ env.locals h news → Q .next { s with heap := h, toks := tk }) :
    ∀ xs m news, R xs m news → ItemsRest prog w A E h₀ env target body Q s ws keep xs m news := by
  intro xs
  induction xs with
  | nil => exact fun m news h => done m news h
  | cons a r ih =>
    intro m news hR v h tk hv F
    refine allObj_mono (step a r m news hR v h tk hv F) fun its _ hN N => wpAny_mono (hN N) (fun _ s₂ h₂ => wpAny_mono h₂ (fun f s₃ p => ?_) fun _ _ e => e) fun _ _ e => e
    have fin : UnrEndW h₀ env.locals { s with heap := h, toks := tk } its (fun m' n' => SubL keep n' ∧ R r m' n') s₃ → UnrEndW h₀ env.locals { s with heap := h, toks := tk } its (fun m' n' => SubL keep n' ∧ ItemsRest prog w A E h₀ env target body Q s ws keep r m' n') s₃ := by
      rintro ⟨h', tk', m', n', e, F', N', off, hk, hr⟩
      exact ⟨h', tk', m', n', e, F', N', off, hk, ih m' n' hr⟩
    cases f with
    | ret v => exact p
    | brk => exact p
    | next => exact fin p
    | cont => exact fin p

/-- a turn's end: what stands below the iterator's own objects is kept -/
theorem unr_end {L I : Addr} {its : Led} {rest : (Str → Option Value) → Led → Prop} {s₁ : Shared} {h' : Heap} {tk : Nat} {m' : Str → Option Value} {all : Led} (F : Fr h₀ L h' m') (N : News h₀ L h' all) (news' : Led)
    (hI : ∀ p ∈ its, p ∈ all) (sub : ∀ p ∈ news', p ∈ all) (low : ∀ p ∈ news', p.1 < I) (hi : ∀ q ∈ its, I ≤ q.1) (r : rest m' news') : UnrEndW h₀ L s₁ its rest { s₁ with heap := h', toks := tk } :=
  ⟨h', tk, m', news', rfl, F, fun p hp => by
    rcases List.mem_append.mp hp with hp | hp
    · exact N p (hI p hp)
    · exact N p (sub p hp), fun p hp q hq => Nat.ne_of_lt (Nat.lt_of_lt_of_le (low p hp) (hi q hq)), r⟩

noncomputable def Items {β : Type} (Is : β → Itm → Prop) : List Itm → List β → Prop
  | [], [] => True
  | a :: r, b :: q => Is b a ∧ Items Is r q
  | _, _ => False

/-- what a loop that grows one list of ints and turns one int makes of its items -/
noncomputable def runLF {β : Type} (g : β → Int → List Int × Int) : List β → Int → List Int × Int
  | [], f => ([], f)
  | b :: r, f => ((g b f).1 ++ (runLF g r (g b f).2).1, (runLF g r (g b f).2).2)

/-- the end of a turn of such a loop -/
noncomputable def TurnLF (m₀ : Str → Option Value) (y : Str) (stored : List Str) (D : Addr) (news keep : Led) (acc : List Int) (f : Int) (m' : Str → Option Value) (n' : Led) : Prop :=
  ∃ rs n t, IntsAre rs acc ∧ n' = (D, listOf rs.toArray n) :: news ∧ m' y = some (.int f t) ∧ ∀ z, z ≠ y → stored.contains z = false → m' z = m₀ z

theorem loop_LF {β : Type} {Is : β → Itm → Prop} (g : β → Int → List Int × Int) {m₀ : Str → Option Value} (y : Str) (stored : List Str) {D : Addr} {news : Led} {xs : List Itm} (bs : List β) {rs₀ : List Value} {acc₀ : List Int} {n₀ : Nat} {f₀ : Int} {t₀ : Tok} (cap : Nat) (big : β → Nat)
    (hx : Items Is xs bs) (hcap : ∀ b ∈ bs, ∀ f, (g b f).1.length = big b) (hlen : acc₀.length + (bs.map big).sum ≤ cap) (hm₀ : m₀ y = some (.int f₀ t₀)) (hi₀ : IntsAre rs₀ acc₀)
    (hkeep : ∀ rs n, SubL keep ((D, listOf rs n) :: news))
    (turn : ∀ b a (u : Str → Option Value) v h tk f t rs acc n, b ∈ bs → Is b a → a.Is v h → IntsAre rs acc → acc.length + big b ≤ cap →
      Fr h₀ env.locals h (fun z => if z = y then some (.int f t) else if stored.contains z then u z else m₀ z) → AllObj ws (fun its => News h₀ env.locals h (its ++ (D, listOf rs.toArray n) :: news) →
      wpAny (model prog w) A (assign target env v) (fun _ s₂ => wpAny (model prog w) A (execs body env) (UnrPostW h₀ env.locals { s with heap := h, toks := tk } its (fun m' n' => TurnLF m₀ y stored D news keep (acc ++ (g b f).1) (g b f).2 m' n') Q) E s₂) E { s with heap := h, toks := tk }))
    (done : ∀ (u : Str → Option Value) rs n t h tk, IntsAre rs (acc₀ ++ (runLF g bs f₀).1) → Fr h₀ env.locals h (fun z => if z = y then some (.int (runLF g bs f₀).2 t) else if stored.contains z then u z else m₀ z) → News h₀ env.locals h ((D, listOf rs.toArray n) :: news) → Q .next { s with heap := h, toks := tk }) :
    ItemsRest prog w A E h₀ env target body Q s ws keep xs m₀ ((D, listOf rs₀.toArray n₀) :: news) := by
  have conv : ∀ (m : Str → Option Value) f t, m y = some (.int f t) → (∀ z, z ≠ y → stored.contains z = false → m z = m₀ z) → m = fun z => if z = y then some (.int f t) else if stored.contains z then m z else m₀ z := by
    intro m f t h1 h2
    funext z
    by_cases e : z = y
    · simp [e, h1]
    · simp only [if_neg e]
      cases hc : stored.contains z with
      | true => simp
      | false => simpa using h2 z e hc
  refine items_ind (fun xs m news' => ∃ cs rs acc n f t, Items Is xs cs ∧ (∀ b ∈ cs, b ∈ bs) ∧ IntsAre rs acc ∧ acc.length + (cs.map big).sum ≤ cap ∧ news' = (D, listOf rs.toArray n) :: news ∧ m y = some (.int f t) ∧ (∀ z, z ≠ y → stored.contains z = false → m z = m₀ z) ∧ acc ++ (runLF g cs f).1 = acc₀ ++ (runLF g bs f₀).1 ∧ (runLF g cs f).2 = (runLF g bs f₀).2) ?_ ?_ _ _ _ ⟨bs, rs₀, acc₀, n₀, f₀, t₀, hx, fun _ h => h, hi₀, hlen, rfl, hm₀, fun _ _ _ => rfl, rfl, rfl⟩
  · rintro a r m news' ⟨cs, rs, acc, n, f, t, hits, hsub, hrs, hcl, rfl, hy, hz, e1, e2⟩ v h tk hv F
    cases cs with
    | nil => exact hits.elim
    | cons b cs =>
      simp only [List.map_cons, List.sum_cons] at hcl
      rw [conv m f t hy hz] at F
      refine allObj_mono (turn b a m v h tk f t rs acc n (hsub _ (.head _)) hits.1 hv hrs (by omega) F) fun its _ hN N => wpAny_mono (hN N) (fun _ s₂ h₂ => wpAny_mono h₂ (fun fl s₃ p => ?_) fun _ _ e => e) fun _ _ e => e
      have fin : UnrEndW h₀ env.locals { s with heap := h, toks := tk } its (fun m' n' => TurnLF m₀ y stored D news keep (acc ++ (g b f).1) (g b f).2 m' n') s₃ → UnrEndW h₀ env.locals { s with heap := h, toks := tk } its (fun m' n' => SubL keep n' ∧ ∃ cs rs acc n f t, Items Is r cs ∧ (∀ b ∈ cs, b ∈ bs) ∧ IntsAre rs acc ∧ acc.length + (cs.map big).sum ≤ cap ∧ n' = (D, listOf rs.toArray n) :: news ∧ m' y = some (.int f t) ∧ (∀ z, z ≠ y → stored.contains z = false → m' z = m₀ z) ∧ acc ++ (runLF g cs f).1 = acc₀ ++ (runLF g bs f₀).1 ∧ (runLF g cs f).2 = (runLF g bs f₀).2) s₃ := by
        rintro ⟨h', tk', m', n', e, F', N', off, rs', k', t', hrs', rfl, hy', hz'⟩
        refine ⟨h', tk', m', _, e, F', N', off, hkeep _ _, cs, rs', _, k', _, t', hits.2, fun b hb => hsub b (.tail _ hb), hrs', ?_, rfl, hy', hz', ?_, e2⟩
        · rw [List.length_append, hcap b (hsub _ (.head _)) f]; omega
        · rw [List.append_assoc]; exact e1
      cases fl with
      | ret v => exact p
      | brk => exact p
      | next => exact fin p
      | cont => exact fin p
  · rintro m news' ⟨cs, rs, acc, n, f, t, hits, hsub, hrs, hcl, rfl, hy, hz, e1, e2⟩ h tk F N
    cases cs with
    | cons b cs => exact hits.elim
    | nil =>
      have e3 : acc = acc₀ ++ (runLF g bs f₀).1 := by rw [← e1]; simp [runLF]
      have e4 : f = (runLF g bs f₀).2 := e2
      rw [conv m f t hy hz, e4] at F
      exact done m rs n t h tk (e3 ▸ hrs) F N
end
theorem Does.useLB {w : World} {d : Nat} {f : Addr} {news : Led} {vs : List Value} {xs : List Int}
    {loose : List Str} {mean : ExcName → Option Value} {mg mb : Str → Option Value} {dp un : Nat} {gd : Option (List Code)} {cn : Str} {cs : Scope} {a : Addr} {ccd : Value} {cl : List (Str × Addr)} {outer : List Env} {A₀ : Around} {base h₀ : Heap} {L : Addr} {m : Str → Option Value} {s : Shared} {Q E : Value → Shared → Prop}
    (B : Below A₀ base outer h₀) (F : Fr h₀ L s.heap m) (X : (hd.heap_39 w.params).In h₀) (N : News h₀ L s.heap news) (T : Top topView loose mean mg mb h₀) (D : Does w d f news vs (OutL news xs)) (hk : cs.kind = .function)
    (hd : dp + d < recursionLimit) (hu : un + 8 * d < cLine)
    (hret : ∀ D us n h' tk', Fr h₀ L h' m → News h₀ L h' ((D, listOf us.toArray n) :: news) → LCg.Off1 D news → IntsAre us xs → Q (.ref D) { s with heap := h', toks := tk' }) :
    wpAny (model PySem.Challenge.pw_sa0630_01 w) (ktrTop dp un gd cn cs L a ccd cl outer) (call (.ref f) vs) Q E s :=
  D.useL B F X N T hk hd hu hret
theorem Does.usePB {w : World} {d : Nat} {f : Addr} {news : Led} {vs : List Value} {xs : List Int} {x : Int}
    {loose : List Str} {mean : ExcName → Option Value} {mg mb : Str → Option Value} {dp un : Nat} {gd : Option (List Code)} {cn : Str} {cs : Scope} {a : Addr} {ccd : Value} {cl : List (Str × Addr)} {outer : List Env} {A₀ : Around} {base h₀ : Heap} {L : Addr} {m : Str → Option Value} {s : Shared} {Q E : Value → Shared → Prop}
    (B : Below A₀ base outer h₀) (F : Fr h₀ L s.heap m) (X : (hd.heap_39 w.params).In h₀) (N : News h₀ L s.heap news) (T : Top topView loose mean mg mb h₀) (D : Does w d f news vs (OutP news xs x)) (hk : cs.kind = .function)
    (hd : dp + d < recursionLimit) (hu : un + 8 * d < cLine)
    (hret : ∀ P D us n t c h' tk', Fr h₀ L h' m → News h₀ L h' ((P, tupO #[.ref D, .int x t] c) :: (D, listOf us.toArray n) :: news) → LCg.Off1 D news → LCg.Off1 P ((D, listOf us.toArray n) :: news) → IntsAre us xs → Q (.ref P) { s with heap := h', toks := tk' }) :
    wpAny (model PySem.Challenge.pw_sa0630_01 w) (ktrTop dp un gd cn cs L a ccd cl outer) (call (.ref f) vs) Q E s :=
  D.useP B F X N T hk hd hu hret
theorem Does.useBB {w : World} {d : Nat} {f : Addr} {news : Led} {vs : List Value} {b : Bool}
    {loose : List Str} {mean : ExcName → Option Value} {mg mb : Str → Option Value} {dp un : Nat} {gd : Option (List Code)} {cn : Str} {cs : Scope} {a : Addr} {ccd : Value} {cl : List (Str × Addr)} {outer : List Env} {A₀ : Around} {base h₀ : Heap} {L : Addr} {m : Str → Option Value} {s : Shared} {Q E : Value → Shared → Prop}
    (B : Below A₀ base outer h₀) (F : Fr h₀ L s.heap m) (X : (hd.heap_39 w.params).In h₀) (N : News h₀ L s.heap news) (T : Top topView loose mean mg mb h₀) (D : Does w d f news vs (OutB news b)) (hk : cs.kind = .function)
    (hd : dp + d < recursionLimit) (hu : un + 8 * d < cLine)
    (hret : ∀ h' tk', Fr h₀ L h' m → News h₀ L h' news → Q (.bool b) { s with heap := h', toks := tk' }) :
    wpAny (model PySem.Challenge.pw_sa0630_01 w) (ktrTop dp un gd cn cs L a ccd cl outer) (call (.ref f) vs) Q E s :=
  D.useB B F X N T hk hd hu hret

/- part 3 -/

noncomputable def IsZ (b : Int × Int) (a : Itm) : Prop := ∃ t t', a = .pair (fun _ => .int b.1 t) (.int b.2 t')
theorem items_zip : ∀ {vs us : List Value} {xs ys : List Int}, IntsAre vs xs → IntsAre us ys → xs.length = ys.length → Items IsZ (zipItems vs us) (xs.zip ys) := by
  intro vs us xs ys h
  induction h generalizing us ys with
  | nil => intro h' e; cases h' with
    | nil => exact trivial
    | cons => cases e
  | cons n t h ih => intro h' e; cases h' with
    | nil => cases e
    | cons n' t' h' => exact ⟨⟨t, t', rfl⟩, ih h' (by simpa using e)⟩
/-- an enumerated octet: is it the first?, and its value -/
noncomputable def IsE (b : Int × Int) (a : Itm) : Prop := ∃ t', a = .pair (fun t => .int b.1 t) (.int b.2 t')
noncomputable def enumFrom (i : Nat) : List Int → List (Int × Int)
  | [] => []
  | x :: r => ((i : Int), x) :: enumFrom (i + 1) r
theorem items_enum : ∀ {vs : List Value} {xs : List Int} (i : Nat), IntsAre vs xs → Items IsE (enumItems i vs) (enumFrom i xs) := by
  intro vs xs i h
  induction h generalizing i with
  | nil => exact trivial
  | cons n t h ih => exact ⟨⟨t, rfl⟩, ih (i + 1)⟩
noncomputable def IsV (b : Int) (a : Itm) : Prop := ∃ t, a = .val (.int b t)
theorem items_vals : ∀ {vs : List Value} {xs : List Int}, IntsAre vs xs → Items IsV (vs.map .val) xs := by
  intro vs xs h
  induction h with
  | nil => exact trivial
  | cons n t h ih => exact ⟨⟨t, rfl⟩, ih⟩
theorem ints_snoc {vs : List Value} {xs : List Int} (h : IntsAre vs xs) (x : Int) (t : Tok) : IntsAre (vs ++ [.int x t]) (xs ++ [x]) := h.append (.cons x t .nil)
theorem low_cons {D I : Addr} {o : Obj} {news : Led} (hD : D < I) (h : ∀ p ∈ news, p.1 < I) : ∀ p ∈ (D, o) :: news, p.1 < I := fun p hp => by
  rcases List.mem_cons.mp hp with rfl | hp
  · exact hD
  · exact h p hp
theorem news_tail {h₀ h : Heap} {L : Addr} {q : Addr × Obj} {news : Led} (N : News h₀ L h (q :: news)) : News h₀ L h news := fun p hp => N p (.tail _ hp)
theorem sum_const {β : Type} (k : Nat) : ∀ l : List β, (l.map (fun _ => k)).sum = k * l.length
  | [] => rfl
  | _ :: r => by rw [List.map_cons, List.sum_cons, sum_const k r, List.length_cons, Nat.mul_succ, Nat.add_comm]
theorem turn_end {h₀ h' : Heap} {L D I : Addr} {its all news keep : Led} {m₀ m' : Str → Option Value} {y : Str} {stored : List Str} {s₁ : Shared} {tk n : Nat} {rs : List Value} {acc : List Int} {f : Int} {t : Tok}
    (F : Fr h₀ L h' m') (N : News h₀ L h' all) (hm : (D, listOf rs.toArray n) ∈ all) (sub : ∀ p ∈ news, p ∈ all) (hI : ∀ p ∈ its, p ∈ all) (hDI : D < I) (low : ∀ p ∈ news, p.1 < I) (hi : ∀ q ∈ its, I ≤ q.1)
    (hrs : IntsAre rs acc) (hy : m' y = some (.int f t)) (hz : ∀ z, z ≠ y → stored.contains z = false → m' z = m₀ z) :
    UnrEndW h₀ L s₁ its (fun m' n' => TurnLF m₀ y stored D news keep acc f m' n') { s₁ with heap := h', toks := tk } :=
  unr_end F N ((D, listOf rs.toArray n) :: news) hI (fun p hp => (List.mem_cons.mp hp).elim (fun e => e ▸ hm) (sub p)) (low_cons hDI low) hi ⟨rs, n, t, hrs, rfl, hy, hz⟩
theorem bit1 (f : Int) : 0 ≤ Builtin.bitAnd f 1 ∧ Builtin.bitAnd f 1 ≤ 1 := bitAnd_range f (by decide)
local macro_rules | `(tactic| walk_at "exec For Tuple Call cons nil") => `(tactic| (k_here; (rename Fr _ _ _ _ => lF'); (with_unfolding_all refine' For_turns lF' ?_; k_whole)))

/- part 4 -/

noncomputable def toldF (x n : Int) : List Int := List.map (fun k' => Builtin.bitAnd (x.fdiv (2 ^ (8 * k').toNat)) 255) (rangeKs 0 (n - 0).toNat)
theorem told_does (w : World) (news : Led) (x : Int) (tx : Tok) (n : Int) (tn : Tok) (hn0 : 0 ≤ n) (hn1 : n ≤ 12) : Does w 2 171 news [.int x tx, .int n tn] (OutL news (toldF x n)) := by
  unfold Does
  intro loose mean mg mb dp un gd cn cs a₀ ccd cl outer A₀ base h₀ L m s Q E B F X N T hk hdp hun hret
  refine fill0 (by k_fill; exact ⟨rfl, rfl⟩) ?_
  refine wpAny_call ?_
  k_dflt (refine' code_defC ?k1 ?k2 ?k3 ?k4 ?k5 ?kA ?kF ?kK ?k6 ?k7 ?k8 ?k9 ?kB ?kD ?_ ?c2 ?c3 ?c4; (case kA => exact rfl); (case kF => exact rfl); (case kK => assumption); (case k1 => k_asm); (case k2 => k_asm); (case k3 => k_asm); (case k4 => k_asm); (case k5 => k_asm); (case k6 => k_is); (case k7 => k_is); (case k8 => ktr_room); (case k9 => exact BindsTo.of_eq rfl); (case kB => exact rfl); (case kD => decide +kernel); (case c2 => exact rfl); (case c3 => exact rfl); (case c4 => exact rfl); k_whole; intro g' L' h' tk' cells' FG' F' N' Y' B' X' T' l1; (try k_lt l1); k_cells Y'; (try simp only [List.cons_append, List.nil_append] at N'); (try dsimp only); (try k_lift B'); (try k_fold))
  k_steps
  all_goals (refine does_list hret (by k_asm) (by k_asm) (by intro p hp; first | exact hp | exact List.Mem.tail _ hp | exact List.Mem.tail _ (List.Mem.tail _ hp) | (simp only [List.mem_cons]; simp [hp])) (by first | exact off1_fun (by assumption) | exact off1_lt (by assumption) | assumption | exact (‹_ ∧ LCg.Off1 _ _›).2 | exact (‹_ ∧ _ ∧ LCg.Off1 _ _›).2.2 | exact off1_lt (‹_ ∧ AllLt _ _›).2 | (simp only [LCg.Off1, AllLt, and_true] at *; omega)) (by assumption) ?_)
  all_goals rfl

noncomputable def signedF (x n : Int) : Int := if 256 ^ n.toNat ≤ 2 * x then x - 256 ^ n.toNat else x
theorem signed_does (w : World) (news : Led) (x : Int) (tx : Tok) (n : Int) (tn : Tok) (hn0 : 0 ≤ n) (hn1 : n ≤ 6)  : Does w 2 131 news [.int x tx, .int n tn] (OutI news (signedF x n)) := by
  unfold Does
  intro loose mean mg mb dp un gd cn cs a₀ ccd cl outer A₀ base h₀ L m s Q E B F X N T hk hdp hun hret
  refine fill0 (by k_fill; exact ⟨rfl, rfl⟩) ?_
  refine wpAny_call ?_
  k_dflt cell_enter
  k_steps
  all_goals (refine does_int hret (by k_asm) (by k_asm) (by intro p hp; first | exact hp | exact List.Mem.tail _ hp | exact List.Mem.tail _ (List.Mem.tail _ hp) | (simp only [List.mem_cons]; simp [hp])) ?_)
  all_goals (try law_clear)
  all_goals (first | (simp_all [signedF]; done) | (simp_all [-Int.not_le, signedF]; done))

noncomputable def chainG (bl : Bool) (b : Int × Int) (f : Int) : List Int × Int := match bl with
  | true => ([add8R b.1 b.2 (Builtin.bitAnd f 1)], add8F b.1 b.2 (Builtin.bitAnd f 1))
  | false => ([sub8R b.1 b.2 (Builtin.bitAnd f 1)], sub8F b.1 b.2 (Builtin.bitAnd f 1))
theorem chainG_big (bl : Bool) (b : Int × Int) (f : Int) : (chainG bl b f).1.length = 1 := by cases bl <;> rfl

theorem chained_does (w : World) (news : Led) (la lb : Addr) (vs us : List Value) (n k : Nat) (xs ys : List Int) (c : Int) (tc : Tok) (bl : Bool) (ha : (la, listOf vs.toArray n) ∈ news) (hb : (lb, listOf us.toArray k) ∈ news)
    (hi : IntsAre vs xs) (hj : IntsAre us ys) (hl : xs.length = ys.length) (hcap : xs.length ≤ 6) : Does w 3 138 news [.ref la, .ref lb, .int c tc, .bool bl] (OutP news (runLF (chainG bl) (xs.zip ys) c).1 (runLF (chainG bl) (xs.zip ys) c).2) := by
  unfold Does
  intro loose mean mg mb dp un gd cn cs a₀ ccd cl outer A₀ base h₀ L m s Q E B F X N T hk hdp hun hret
  refine fill0 (by k_fill; exact ⟨rfl, rfl⟩) ?_
  refine wpAny_call ?_
  k_dflt cell_enter
  repeat' (first | (k_unfold; (try dsimp only)) | (k_end; wrow_close) | ((fail_if_success (with_reducible show wpAny _ _ (call (Value.type "zip") _) _ _ _)); walk1) | (dsimp only; (fail_if_success (with_reducible show wpAny _ _ (call (Value.type "zip") _) _ _ _)); walk1) | (leave1; walk_say "STEP leave1"; try dsimp only))
  rename Fr _ _ _ _ => F1
  rename News _ _ _ _ => N1
  have N2 := news_tail N1
  with_unfolding_all refine ktu_zip (by rfl) F1 N2 (List.Mem.tail _ ha) rfl rfl (List.Mem.tail _ hb) rfl rfl ?_
  intro I lI
  have hDI := ltN (lI _ (List.Mem.head _))
  dsimp only at hDI ⊢
  refine loop_LF (Is := IsZ) (chainG bl) (Str.ofString "flags") [Str.ofString "one", Str.ofString "other", Str.ofString "r"] (xs.zip ys) 6 (f₀ := c) (t₀ := tc) (fun _ => 1) (items_zip hi hj hl) (fun b _ f => chainG_big bl b f) ?cap rfl .nil ?keep ?turn ?done
  case cap => (rw [sum_const]; simp only [List.length_nil, List.length_zip]; omega)
  case keep => intro _ _; exact ⟨List.Mem.tail _ ha, List.Mem.tail _ hb, trivial⟩
  case turn =>
    intro b a u v h tk f t rs acc n' hb' hIs hv hrs hlen' F'
    obtain ⟨x, y⟩ := b
    obtain ⟨tx, ty, rfl⟩ := hIs
    obtain ⟨T, t', rfl, hT⟩ := hv
    dsimp only at hT
    ktu_objs
    (try k_fold)
    cases bl
    all_goals
      k_steps
      rename Fr _ _ _ _ => FE
      rename News _ _ _ _ => NE
      (try simp only [List.push_toArray] at NE)
      refine' turn_end (I := I) FE NE ?hm ?sub ?hI hDI (fun p hp => lI p (List.Mem.tail _ hp)) ?hi ?hrs ?hy ?hz
      case hm => k_memK
      case sub => exact fun p hp => by repeat (first | exact hp | refine List.Mem.tail _ ?_)
      case hI => k_allIn
      case hi => repeat (first | exact List.forall_mem_nil _ | (refine List.forall_mem_cons.mpr ⟨by first | exact Nat.le_add_right _ _ | exact Nat.le_refl _, ?_⟩))
      case hrs => exact ints_snoc hrs _ _
      case hy => exact rfl
      case hz =>
        intro z h1 h2
        have h3 := h2
        simp only [List.contains_cons, List.contains_nil, Bool.or_eq_false_iff, beq_eq_false_iff_ne, ne_eq, Bool.or_false] at h3
        simp only [h1, h3, h2, if_false, Bool.false_eq_true]
  case done =>
    intro u rs n' t h tk hrs F' N'
    dsimp only
    (try k_fold)
    k_steps
    all_goals (refine does_pair hret (by k_asm) (by k_asm) (by k_memK) (by intro p hp; first | exact hp | exact List.Mem.tail _ hp | exact List.Mem.tail _ (List.Mem.tail _ hp) | (simp only [List.mem_cons]; simp [hp])) (by first | exact off1_fun (by assumption) | exact off1_lt (by assumption) | assumption | exact (‹_ ∧ LCg.Off1 _ _›).2 | exact (‹_ ∧ _ ∧ LCg.Off1 _ _›).2.2 | exact off1_lt (‹_ ∧ AllLt _ _›).2 | (simp only [LCg.Off1, AllLt, and_true] at *; omega)) (by first | exact off1_fun (by assumption) | exact off1_lt (by assumption) | assumption | exact (‹_ ∧ LCg.Off1 _ _›).2 | exact (‹_ ∧ _ ∧ LCg.Off1 _ _›).2.2 | exact off1_lt (‹_ ∧ AllLt _ _›).2 | (simp only [LCg.Off1, AllLt, and_true] at *; omega)) (by assumption) ?_ ?_)
    all_goals rfl

theorem enumFrom_length : ∀ (i : Nat) (xs : List Int), (enumFrom i xs).length = xs.length
  | _, [] => rfl
  | i, _ :: r => congrArg (· + 1) (enumFrom_length (i + 1) r)
theorem enumFrom_mem : ∀ (i : Nat) (xs : List Int) (b : Int × Int), b ∈ enumFrom i xs → b.2 ∈ xs
  | _, [], _, h => nomatch h
  | i, x :: r, b, h => by
    rcases List.mem_cons.mp h with rfl | h
    · exact .head _
    · exact .tail _ (enumFrom_mem (i + 1) r b h)

noncomputable def turnG (first more : Int) (b : Int × Int) (f : Int) : List Int × Int := ([turnR (if b.1 = 0 then first else more) b.2 f], rotF (if b.1 = 0 then first else more) b.2 f)
theorem turnedL_does (w : World) (news : Led) (la : Addr) (vs : List Value) (n : Nat) (xs : List Int) (k1 : Int) (t1 : Tok) (k2 : Int) (t2 : Tok) (c : Int) (tc : Tok) (ha : (la, listOf vs.toArray n) ∈ news)
    (hi : IntsAre vs xs) (hcap : xs.length ≤ 6) (hx : ∀ x ∈ xs, 0 ≤ x ∧ x < 256) (hk1 : Kind k1) (hk2 : Kind k2) : Does w 3 159 news [.ref la, .int k1 t1, .int k2 t2, .int c tc] (OutP news (runLF (turnG k1 k2) (enumFrom 0 xs) c).1 (Builtin.bitAnd (runLF (turnG k1 k2) (enumFrom 0 xs) c).2 1)) := by
  unfold Does
  intro loose mean mg mb dp un gd cn cs a₀ ccd cl outer A₀ base h₀ L m s Q E B F X N T hk hdp hun hret
  refine fill0 (by k_fill; exact ⟨rfl, rfl⟩) ?_
  refine wpAny_call ?_
  k_dflt cell_enter
  repeat' (first | (k_unfold; (try dsimp only)) | (k_end; wrow_close) | ((fail_if_success (with_reducible show wpAny _ _ (call (Value.type "enumerate") _) _ _ _)); walk1) | (dsimp only; (fail_if_success (with_reducible show wpAny _ _ (call (Value.type "enumerate") _) _ _ _)); walk1) | (leave1; walk_say "STEP leave1"; try dsimp only))
  rename Fr _ _ _ _ => F1
  rename News _ _ _ _ => N1
  have N2 := N1
  with_unfolding_all refine ktu_enum (lo := listOf vs.toArray n) (vs := vs) (n := n) (xs := enumItems 0 vs) (by rfl) F1 N2 (List.Mem.tail _ ha) (by rfl) (by rfl) (by rfl) ?_
  intro I lI
  have hDI := ltN (lI _ (List.Mem.head _))
  dsimp only at hDI ⊢
  refine loop_LF (Is := IsE) (turnG k1 k2) (Str.ofString "flags") [Str.ofString "at", Str.ofString "octet", Str.ofString "r"] (enumFrom 0 xs) 6 (f₀ := c) (t₀ := tc) (fun _ => 1) (items_enum 0 hi) (fun _ _ _ => rfl) ?cap rfl .nil ?keep ?turn ?done
  case cap => (rw [sum_const, enumFrom_length]; simp only [List.length_nil]; omega)
  case keep => intro _ _; exact ⟨List.Mem.tail _ ha, trivial⟩
  case turn =>
    intro b a u v h tk f t rs acc n' hb' hIs hv hrs hlen' F'
    obtain ⟨hx0, hx1⟩ := hx _ (enumFrom_mem _ _ _ hb')
    obtain ⟨at', x⟩ := b
    obtain ⟨ty, rfl⟩ := hIs
    obtain ⟨T, t', rfl, hT⟩ := hv
    dsimp only at hT hx0 hx1
    ktu_objs
    (try k_fold)
    k_steps
    · have hat : at' = 0 := by assumption
      simp only [turnG, if_pos hat]
      rename Fr _ _ _ _ => FE
      rename News _ _ _ _ => NE
      (try simp only [List.push_toArray] at NE)
      refine' turn_end (I := I) FE NE ?hm ?sub ?hI hDI (fun p hp => lI p (List.Mem.tail _ hp)) ?hi ?hrs ?hy ?hz
      case hm => k_memK
      case sub => exact fun p hp => by repeat (first | exact hp | refine List.Mem.tail _ ?_)
      case hI => k_allIn
      case hi => repeat (first | exact List.forall_mem_nil _ | (refine List.forall_mem_cons.mpr ⟨by first | exact Nat.le_add_right _ _ | exact Nat.le_refl _, ?_⟩))
      case hrs => exact ints_snoc hrs _ _
      case hy => exact rfl
      case hz =>
        intro z h1 h2
        have h3 := h2
        simp only [List.contains_cons, List.contains_nil, Bool.or_eq_false_iff, beq_eq_false_iff_ne, ne_eq, Bool.or_false] at h3
        simp only [h1, h3, h2, if_false, Bool.false_eq_true]
    · have hat : ¬ at' = 0 := by assumption
      simp only [turnG, if_neg hat]
      rename Fr _ _ _ _ => FE
      rename News _ _ _ _ => NE
      (try simp only [List.push_toArray] at NE)
      refine' turn_end (I := I) FE NE ?hm ?sub ?hI hDI (fun p hp => lI p (List.Mem.tail _ hp)) ?hi ?hrs ?hy ?hz
      case hm => k_memK
      case sub => exact fun p hp => by repeat (first | exact hp | refine List.Mem.tail _ ?_)
      case hI => k_allIn
      case hi => repeat (first | exact List.forall_mem_nil _ | (refine List.forall_mem_cons.mpr ⟨by first | exact Nat.le_add_right _ _ | exact Nat.le_refl _, ?_⟩))
      case hrs => exact ints_snoc hrs _ _
      case hy => exact rfl
      case hz =>
        intro z h1 h2
        have h3 := h2
        simp only [List.contains_cons, List.contains_nil, Bool.or_eq_false_iff, beq_eq_false_iff_ne, ne_eq, Bool.or_false] at h3
        simp only [h1, h3, h2, if_false, Bool.false_eq_true]
  case done =>
    intro u rs n' t h tk hrs F' N'
    dsimp only
    (try k_fold)
    k_steps
    all_goals (refine does_pair hret (by k_asm) (by k_asm) (by k_memK) (by intro p hp; first | exact hp | exact List.Mem.tail _ hp | exact List.Mem.tail _ (List.Mem.tail _ hp) | (simp only [List.mem_cons]; simp [hp])) (by first | exact off1_fun (by assumption) | exact off1_lt (by assumption) | assumption | exact (‹_ ∧ LCg.Off1 _ _›).2 | exact (‹_ ∧ _ ∧ LCg.Off1 _ _›).2.2 | exact off1_lt (‹_ ∧ AllLt _ _›).2 | (simp only [LCg.Off1, AllLt, and_true] at *; omega)) (by first | exact off1_fun (by assumption) | exact off1_lt (by assumption) | assumption | exact (‹_ ∧ LCg.Off1 _ _›).2 | exact (‹_ ∧ _ ∧ LCg.Off1 _ _›).2.2 | exact off1_lt (‹_ ∧ AllLt _ _›).2 | (simp only [LCg.Off1, AllLt, and_true] at *; omega)) (by assumption) ?_ ?_)
    all_goals rfl
local macro_rules | `(tactic| walk_at "call ref") => `(tactic| (k_here; (with_reducible show wpAny _ _ (call (Value.ref 171) _) _ _ _); k_dflt (refine Does.useLB (by k_asm) (by k_asm) (by k_asm) (by k_asm) (by k_asm) (told_does _ _ _ _ _ _ (by first | assumption | omega) (by first | assumption | omega)) (by first | exact rfl | assumption) (by ktr_room) (by ktr_units) ?_); intro D9 us9 n9 h9 tk9 F9 N9 l9 i9; (try simp only [LCg.Off1, and_true] at l9); walk_at "mine end"))
local macro_rules | `(tactic| walk_at "call ref") => `(tactic| (k_here; (with_reducible show wpAny _ _ (call (Value.ref 131) _) _ _ _); k_dflt (refine Does.useIB (by k_asm) (by k_asm) (by k_asm) (by k_asm) (by k_asm) (signed_does _ _ _ _ _ _ (by first | assumption | omega) (by first | assumption | omega)) (by first | exact rfl | assumption) (by ktr_room) (by ktr_units) ?_); intro t9 h9 tk9 F9 N9; walk_at "mine end"))

/- part 5 -/

section
open LCg
variable {prog : Program} {w : World} {A : Around} {E : Value → Shared → Prop} {s : Shared} {h₀ : Heap} {L : Addr} {m : Str → Option Value} {env : Env} {news : Led}

/-- an element of such a comprehension is an int, whatever the rest -/
noncomputable def EltE (prog : Program) (w : World) (A : Around) (h₀ : Heap) (L : Addr) (m : Str → Option Value) (env : Env) (elt : Expr) (x x₂ : Str) (scope : Scope) (cl : List (Str × Addr)) (news : Led) (xs : List Int) (g : Int → Int → Int) (s : Shared) : Prop :=
  ∀ (i : Nat) (v : Int) (ti tv : Tok) (C : Addr) (oC : Obj) (m₂ : Str → Option Value) (h : Heap) (tk : Nat) (Q' : Value → Shared → Prop) (E' : Value → Shared → Prop), xs[i]? = some v → NsObj oC m₂ → m₂ x = some (.int (i : Int) ti) → m₂ x₂ = some (.int v tv) →
    Fr h₀ L h m → News h₀ L h ((C, oC) :: news) → (∀ t tk', Q' (.int (g (i : Int) v) t) { s with heap := h, toks := tk' }) → wpAny (model prog w) A (eval elt (compEnvC scope cl C env)) Q' E' { s with heap := h, toks := tk }
noncomputable def resE (g : Int → Int → Int) (xs : List Int) : List Int := (enumFrom 0 xs).map fun b => g b.1 b.2
noncomputable def FinL (h₀ : Heap) (L : Addr) (m : Str → Option Value) (news : Led) (rs : List Int) (Q : Value → Shared → Prop) (s : Shared) : Prop :=
  ∀ D ys h tk, Fr h₀ L h m → News h₀ L h ((D, lst ys) :: news) → Off1 D news → IntsAre ys rs → Q (.ref D) { s with heap := h, toks := tk }
noncomputable def SrcE (prog : Program) (w : World) (A : Around) (h₀ : Heap) (L : Addr) (m : Str → Option Value) (env : Env) (elt : Expr) (x x₂ : Str) (scope : Scope) (cl : List (Str × Addr)) (Q : Value → Shared → Prop) (xv : Value) (s₁ : Shared) : Prop :=
  ∃ (e it l : Addr) (vs : List Value) (xs : List Int) (g : Int → Int → Int) (news : Led), xv = .ref e ∧ A.handled = none ∧ IsEnum s₁.heap e it 0 .none ∧ s₁.heap.IsListIter it l 0 ∧ s₁.heap.IsList l vs.toArray ∧ IntsAre vs xs ∧ e ≠ it ∧ l ≠ e ∧ l ≠ it ∧ e < s₁.heap.objs.size ∧ it < s₁.heap.objs.size ∧
    Fr h₀ L s₁.heap m ∧ News h₀ L s₁.heap news ∧ (∀ p ∈ news, p.1 ≠ e ∧ p.1 ≠ it) ∧ L ≠ e ∧ L ≠ it ∧ h₀.get? e = none ∧ h₀.get? it = none ∧ xs.length ≤ 1000 ∧
    EltE prog w A h₀ L m env elt x x₂ scope cl news xs g s₁ ∧ FinL h₀ L m news (resE g xs) Q s₁

theorem enumFrom_get : ∀ (xs : List Int) (k i : Nat) (v : Int), xs[i]? = some v → (enumFrom k xs)[i]? = some (((k + i : Nat) : Int), v)
  | [], _, _, _, h => by simp at h
  | x :: r, k, 0, v, h => by
    have e : x = v := by simpa using h
    subst e
    rfl
  | x :: r, k, i + 1, v, h => by
    have h' : r[i]? = some v := by simpa using h
    have q := enumFrom_get r (k + 1) i v h'
    rw [show k + 1 + i = k + (i + 1) by omega] at q
    simpa [enumFrom] using q
theorem resE_get {g : Int → Int → Int} {xs : List Int} {i : Nat} {v : Int} (h : xs[i]? = some v) : (resE g xs)[i]? = some (g (i : Int) v) := by
  unfold resE
  rw [List.getElem?_map, enumFrom_get xs 0 i v h]
  simp
theorem resE_length {g : Int → Int → Int} {xs : List Int} : (resE g xs).length = xs.length := by
  unfold resE
  rw [List.length_map, enumFrom_length]

theorem comp_enum {elt iter : Expr} {x x₂ : Str} {px px₂ tp : Pos} {kk : Nat} {scope : Scope} {cl : List (Str × Addr)} {pos : Pos} {Q : Value → Shared → Prop} (F₀ : Fr h₀ L s.heap m)
    (hclos : closureFor scope env = pure cl) (hcell : ∀ y ∈ scope.names, y.2 ≠ .cell) (hkind : scope.kind = .function)
    (hnames : ∀ y ∈ scope.names, y.2 = .local → scope.names.lookup y.1 = some .local) (hx : scope.names.lookup x = some .local) (hx₂ : scope.names.lookup x₂ = some .local) (hxx : x ≠ x₂)
    (h : wpAny (model prog w) A (eval iter env) (SrcE prog w A h₀ L m env elt x x₂ scope cl Q) E s)
    (hs : ∀ x, foldedSetIterable iter env x = pure x := by intro _; rfl) :
    wpAny (model prog w) A (eval (.ListComp elt [⟨.Tuple [.Name x px, .Name x₂ px₂] kk tp, iter, [], 0⟩] scope pos) env) Q E s := by
  rw [eval_ListComp]
  refine wpAny_comprehension_free (use := none) rfl hs hclos hkind hnames (wpAny_mono h (fun xv s₁ h₁ => ?_) fun _ _ e => e)
  obtain ⟨e, it, l, vs, xs, g, news, rfl, hh, hE, hI, hl, hi, hei, hle, hli, hes, hits, F, N, off, hLe, hLi, he₀, hi₀, hlen, helt, hfin⟩ := h₁
  refine wpAny_pyIter_enum hE ?_
  have W := KTurns.ofWalksU (elts := [.Name x px, .Name x₂ px₂]) (k := kk) (pos := tp) (WalksT.enumerate (prog := prog) (w := w) (A := A) hh e it l hei hle hli vs.toArray).toU
  have hsz : vs.toArray.size = xs.length := by simp [hi.length]
  rw [hsz] at W
  refine wpAny_newObj_type (wpAny_newFunctionEnv hcell (by intro y hy; simp at hy) (fun h₁ hns₁ hsb₁ => ?_) hkind)
  dsimp only at hns₁ hsb₁ ⊢
  generalize hH2 : s₁.heap.push { cls := .type "list", dict := none, data := .seq ([] : List Value).toArray } = H2 at hns₁ hsb₁ ⊢
  -- the new list D, the block's frame C
  generalize hDd : s₁.heap.objs.size = D at *
  have hCD : H2.objs.size = D + 1 := by rw [← hH2, Heap.size_push, hDd]
  generalize hCc : H2.objs.size = C at *
  have lt : ∀ {b : Addr} {o : Obj}, s₁.heap.get? b = some o → b < D := fun e => hDd ▸ Heap.lt_size e
  have neC : ∀ {b : Addr}, b < D → b ≠ C := fun hb => by rw [hCD]; exact Nat.ne_of_lt (Nat.lt_succ_of_lt hb)
  have neD : ∀ {b : Addr}, b < D → b ≠ D := fun hb => Nat.ne_of_lt hb
  have DC : D ≠ C := by rw [hCD]; exact Nat.ne_of_lt (Nat.lt_succ_self _)
  have hLlt : L < D := hDd ▸ F.ns.lt
  have up : ∀ b o, s₁.heap.get? b = some o → h₁.get? b = some o := fun b o q => hsb₁.extBut b o (neC (lt q)) (Heap.get?_push_of_some _ (hH2 ▸ Heap.get?_push_of_some _ q))
  have gD : h₁.get? D = some (lst []) := hsb₁.extBut _ _ DC (Heap.get?_push_of_some _ (by rw [← hH2, ← hDd]; exact Heap.get?_push_size _ rfl))
  have none₀ : ∀ a, D ≤ a → h₀.get? a = none := fun a ha => by
    cases q : h₀.get? a with
    | none => rfl
    | some o => exact absurd (lt (F.keep a o q)) (Nat.not_lt.mpr ha)
  have hD₀ := none₀ D (Nat.le_refl _)
  have hC₀ := none₀ C (by rw [hCD]; exact Nat.le_succ _)
  have hel : e < D := hes
  have hil : it < D := hits
  have hll : l < D := by obtain ⟨o, q, _⟩ := hl; exact lt q
  have newsD : ∀ p ∈ news, p.1 < D := fun p hp => lt (N p hp).1
  have loop : ∀ s₃ : Shared, s₃ = { s₁ with heap := h₁, toks := s₁.toks + ([] : List (Str × Value)).length } →
      codeAny (model prog w) A (.compLoop (.ListComp elt [⟨.Tuple [.Name x px, .Name x₂ px₂] kk tp, iter, [], 0⟩] scope pos) 0 (.ref e) (.ref D) (compEnvC scope cl C env)) (compPost (model prog w) A E none Q (.ref D) C) s₃ := by
    rintro s₃ rfl
    refine LCp.codeAny_compLoop_pair
      (fun k s' => ∃ h' tk i ys m', s' = { s₁ with heap := h', toks := tk } ∧ i ≤ xs.length ∧ k = xs.length + 1 - i ∧ ys.length = i ∧ ((∃ old, IsEnum h' e it (i : Nat) old) ∧ h'.IsListIter it l i ∧ h'.IsList l vs.toArray) ∧ Fr h₀ L h' m ∧ h'.Ns C m' ∧ News h₀ L h' ((D, lst ys) :: news) ∧ IntsAre ys ((resE g xs).take i)) ?_ (xs.length + 1)
      ⟨h₁, _, 0, [], _, rfl, Nat.zero_le _, rfl, rfl, ⟨⟨_, up _ _ hE⟩, hI.at fun o q => up _ o q, hl.at fun o q => up _ o q⟩, F.keeps up, hns₁, ?_, .nil⟩
    · rintro k s' ⟨h', tk, i, ys, m', rfl, hin, rfl, hyl, hst, F', hn', N', hys⟩
      have look : ∀ (h₂ : Heap), (∀ b o, b ∉ [e, it] → h'.get? b = some o → h₂.get? b = some o) → Fr h₀ L h₂ m ∧ h₂.Ns C m' ∧ News h₀ L h₂ ((D, lst ys) :: news) := fun h₂ hk₂ =>
        ⟨⟨F'.ns.at' fun o q => hk₂ L o (by simp [hLe, hLi]) q, fun b o q => hk₂ b o (fun hb => by
            simp only [List.mem_cons, List.not_mem_nil, or_false] at hb
            rcases hb with rfl | rfl
            · rw [he₀] at q; cases q
            · rw [hi₀] at q; cases q) (F'.keep b o q), F'.above⟩,
          hn'.at' fun o q => hk₂ C o (by simp [Ne.symm (neC hel), Ne.symm (neC hil)]) q,
          fun p hp => ⟨hk₂ _ _ (by
            rcases List.mem_cons.mp hp with rfl | hp
            · simp [Ne.symm (neD hel), Ne.symm (neD hil)]
            · simp [(off p hp).1, (off p hp).2]) (N' p hp).1, (N' p hp).2⟩⟩
      by_cases hlt : i < xs.length
      · refine W.item i _ _ _ hlt hst fun v h₂ tk₂ hmd hk₂ => ?_
        refine W.go i v _ _ _ hmd fun h₃ hP hst₃ hk₃ => ?_
        obtain ⟨T, vals, rfl, ⟨ti, y, hy, rfl⟩, hT⟩ := hP
        obtain ⟨F₃, hn₃, N₃⟩ := look h₃ fun b o hb q => hk₃ b o hb (hk₂ b o hb q)
        have hy' : vs[i]? = some y := by simpa using hy
        obtain ⟨n, tn, rfl, hxn⟩ := hi.at i y hy'
        refine assign_Tuple_tuple hh hT rfl rfl fun h₅ he => ?_
        have keep₅ : ∀ b o, h₃.get? b = some o → h₅.get? b = some o := fun b o q => he b o (Nat.ne_of_lt (Heap.lt_size q)) q
        refine assignInOrder_cons (wpAny_assign_Name (wpAny_storeName_local (lookup_relabel_local hx) (hn₃.at' fun o q => keep₅ _ o q) (fun h₆ hn₆ hs₆ => ?_) (by simp [compEnvC, relabel, hkind])))
        refine assignInOrder_cons (wpAny_assign_Name (wpAny_storeName_local (lookup_relabel_local hx₂) hn₆ (fun h₇ hn₇ hs₇ => ?_) (by simp [compEnvC, relabel, hkind])))
        refine assignInOrder_nil ?_
        have keep₇ : ∀ b o, b ≠ C → h₃.get? b = some o → h₇.get? b = some o := fun b o hb q => hs₇.extBut b o hb (hs₆.extBut b o hb (keep₅ b o q))
        have F₇ : Fr h₀ L h₇ m := ((F₃.keeps keep₅).change hs₆ (Ne.symm (neC hLlt)) hC₀).change hs₇ (Ne.symm (neC hLlt)) hC₀
        obtain ⟨oC, heC, hoC⟩ := ns_obj hn₇
        have N₇ : News h₀ L h₇ ((D, lst ys) :: news) := fun p hp => ⟨keep₇ _ _ (by
          rcases List.mem_cons.mp hp with rfl | hp
          · exact DC
          · exact neC (newsD p hp)) (N₃ p hp).1, (N₃ p hp).2⟩
        have NC : News h₀ L h₇ ((C, oC) :: news) := fun p hp => by
          rcases List.mem_cons.mp hp with rfl | hp
          · exact ⟨heC, Ne.symm (neC hLlt), hC₀⟩
          · exact N₇ p (.tail _ hp)
        refine helt i n ti tn C oC _ h₇ _ _ _ hxn hoC (by simp [hxx]) (by simp) F₇ NC fun t₈ tk₈ => ?_
        refine append_at (hsz := by show ys.toArray.size ≤ sizeLine; rw [List.size_toArray, hyl, sizeLine_eq]; omega) (N₇ (D, lst ys) (.head _)).1 fun h₈ hs₈ hD₈ => ?_
        refine ⟨xs.length + 1 - (i + 1), by omega, h₈, tk₈, i + 1, ys ++ [.int (g (i : Int) n) t₈], _, rfl, hlt, rfl, by rw [List.length_append, List.length_singleton, hyl], ?_, F₇.change hs₈ (Ne.symm (neD hLlt)) hD₀, hn₇.sameBut hs₈ (Ne.symm DC), ?_, ?_⟩
        · have kp : ∀ b o, b ≠ C → b ≠ D → h₃.get? b = some o → h₈.get? b = some o := fun b o hc hd q => hs₈.extBut b o hd (keep₇ b o hc q)
          obtain ⟨⟨old, q1⟩, q2, q3⟩ := hst₃
          exact ⟨⟨old, kp _ _ (neC hel) (neD hel) q1⟩, q2.at fun o q => kp _ o (neC hil) (neD hil) q, q3.at fun o q => kp _ o (neC hll) (neD hll) q⟩
        · intro p hp
          rcases List.mem_cons.mp hp with rfl | hp
          · exact ⟨hD₈.trans (congrArg some (lst_snoc ys _)), Ne.symm (neD hLlt), hD₀⟩
          · exact ⟨hs₈.extBut _ _ (neD (newsD p hp)) (N₇ p (.tail _ hp)).1, (N₇ p (.tail _ hp)).2⟩
        · rw [List.take_add_one, resE_get hxn]
          exact hys.append (.cons _ _ .nil)
      · obtain rfl : i = xs.length := Nat.le_antisymm hin (Nat.not_lt.mp hlt)
        refine W.done _ _ _ hst fun h₂ tk₂ hk₂ => ?_
        obtain ⟨F₂, hn₂, N₂⟩ := look h₂ hk₂
        refine ⟨m', hn₂, fun h₃ hs₃ => hfin D ys h₃ tk₂ (F₂.change hs₃ (Ne.symm (neC hLlt)) hC₀) (fun p hp => ⟨hs₃.extBut _ _ (by
          rcases List.mem_cons.mp hp with rfl | hp
          · exact DC
          · exact neC (newsD p hp)) (N₂ p hp).1, (N₂ p hp).2⟩) (off1_fun newsD) ?_⟩
        have q : (resE g xs).take xs.length = resE g xs := by rw [List.take_of_length_le (by rw [resE_length]; exact Nat.le_refl _)]
        rw [q] at hys
        exact hys
    · intro p hp
      rcases List.mem_cons.mp hp with rfl | hp
      · exact ⟨gD, Ne.symm (neD hLlt), hD₀⟩
      · exact ⟨up _ _ (N p hp).1, (N p hp).2⟩
  exact codeAny_compStart_list (loop _ rfl) ((WalksT.enumerate (prog := prog) (w := w) (A := A) hh e it l hei hle hli vs.toArray).self 0 _ _ _ ⟨⟨_, up _ _ hE⟩, hI.at fun o q => up _ o q, hl.at fun o q => up _ o q⟩ (loop _ rfl))

theorem enum_src {elt : Expr} {x x₂ : Str} {scope : Scope} {cl : List (Str × Addr)} {Q : Value → Shared → Prop} {l : Addr} {vs : List Value} {n : Nat} {xs : List Int} (hh : A.handled = none) (F : Fr h₀ L s.heap m) (N : News h₀ L s.heap news) (hm : (l, listOf vs.toArray n) ∈ news) (hi : IntsAre vs xs) (hlen : xs.length ≤ 1000) (g : Int → Int → Int)
    (helt : EltE prog w A h₀ L m env elt x x₂ scope cl news xs g s) (hfin : FinL h₀ L m news (resE g xs) Q s) : wpAny (model prog w) A (call (.type "enumerate") [.ref l]) (SrcE prog w A h₀ L m env elt x x₂ scope cl Q) E s := by
  have hax := N _ hm
  have hl : s.heap.IsList l vs.toArray := ⟨_, hax.1, rfl, n, rfl⟩
  have hlt : l < s.heap.objs.size := Heap.lt_size hax.1
  have hLs : L < s.heap.objs.size := F.ns.lt
  have ne1 : ∀ {b : Nat}, b < s.heap.objs.size → b ≠ s.heap.objs.size + 1 := fun h => Nat.ne_of_lt (Nat.lt_succ_of_lt h)
  refine call_enumerate_list hl fun h' hE hI hsz hk => ?_
  refine ⟨_, _, l, vs, xs, g, news, rfl, hh, hE, hI, hl.at fun o e => hk l o e, hi, Nat.succ_ne_self _, ne1 hlt, Nat.ne_of_lt hlt, ?_, ?_, F.keeps hk, N.grown hk, fun p hp => ?_, ne1 hLs, Nat.ne_of_lt hLs, ktu_new F (Nat.le_succ _), ktu_new F (Nat.le_refl _), hlen, helt, hfin⟩
  · show s.heap.objs.size + 1 < h'.objs.size
    rw [hsz]; exact Nat.lt_succ_self _
  · show s.heap.objs.size < h'.objs.size
    rw [hsz]; exact Nat.lt_succ_of_lt (Nat.lt_succ_self _)
  · exact ⟨ne1 (Heap.lt_size (N p hp).1), Nat.ne_of_lt (Heap.lt_size (N p hp).1)⟩
end
local macro_rules | `(tactic| walk_at "eval ListComp") => `(tactic| (k_here; lcp_look; k_dflt (refine comp_enum (F₀ := by k_asm) (by with_unfolding_all rfl) (by decide) (by rfl) (by decide) (by rfl) (by rfl) (by decide) ?_)))

/- part 6 -/

noncomputable def wholeF (xs : List Int) : Int := (resE (fun i v => v * 2 ^ (8 * i).toNat) xs).sum
theorem whole_does (w : World) (news : Led) (la : Addr) (vs : List Value) (n : Nat) (xs : List Int) (ha : (la, listOf vs.toArray n) ∈ news)
    (hi : IntsAre vs xs) (hcap : xs.length ≤ 6) (hx : ∀ x ∈ xs, 0 ≤ x ∧ x < 256) : Does w 3 124 news [.ref la] (OutI news (wholeF xs)) := by
  unfold Does
  intro loose mean mg mb dp un gd cn cs a₀ ccd cl outer A₀ base h₀ L m s Q E B F X N T hk hdp hun hret
  refine fill0 (by k_fill; exact ⟨rfl, rfl⟩) ?_
  refine wpAny_call ?_
  k_dflt cell_enter
  repeat' (first | (k_unfold; (try dsimp only)) | (k_end; wrow_close) | ((fail_if_success (with_reducible show wpAny _ _ (call (Value.type "enumerate") _) _ _ _)); walk1) | (dsimp only; (fail_if_success (with_reducible show wpAny _ _ (call (Value.type "enumerate") _) _ _ _)); walk1) | (leave1; walk_say "STEP leave1"; try dsimp only))
  rename Fr _ _ _ _ => F1
  rename News _ _ _ _ => N1
  refine enum_src (by rfl) F1 N1 ha hi (by omega) (fun i v => v * 2 ^ (8 * i).toNat) ?elt ?fin
  case elt =>
    intro i v ti tv C oC m₂ h tk Q' E' hv hC hx1 hx2 F' N' hq
    have hlt : i < xs.length := (List.getElem?_eq_some_iff.mp hv).1
    obtain ⟨hv0, hv1⟩ := hx v (List.mem_of_getElem? hv)
    have hi0 : (0 : Int) ≤ (i : Int) := by omega
    have hi1 : (i : Int) ≤ 5 := by omega
    generalize (i : Int) = j at *
    clear hv hlt
    k_steps
    all_goals exact hq _ _
  case fin =>
    intro D ys h tk F' N' ho hys
    k_steps
    all_goals (refine does_int hret (by k_asm) (by k_asm) (by intro p hp; first | exact hp | exact List.Mem.tail _ hp | exact List.Mem.tail _ (List.Mem.tail _ hp) | (simp only [List.mem_cons]; simp [hp])) ?_)
    all_goals rfl

noncomputable def Slot (d : Addr) (g : Obj → Led) : Prop := (∀ o, (d, o) ∈ g o) ∧ ∀ o o', Upd d o o' (g o) (g o')
theorem Slot.upd {d : Addr} {g : Obj → Led} {o o' : Obj} (h : Slot d g) : Upd d o o' (g o) (g o') := h.2 o o'
theorem Slot.mem {d : Addr} {g : Obj → Led} {o : Obj} (h : Slot d g) : (d, o) ∈ g o := h.1 o
noncomputable def Stands (c : Addr) (oc : Obj) (g : Obj → Led) : Prop := ∀ o, (c, oc) ∈ g o
theorem Stands.mem {c : Addr} {oc o : Obj} {g : Obj → Led} (h : Stands c oc g) : (c, oc) ∈ g o := h o
local macro_rules | `(tactic| k_upd) => `(tactic| exact Slot.upd (by assumption))
local macro_rules | `(tactic| k_mem) => `(tactic| first | exact Slot.mem (by assumption) | exact Stands.mem (by assumption))
theorem len_led {prog : Program} {w : World} {A : Around} {E : Value → Shared → Prop} {s : Shared} {h₀ : Heap} {L D : Addr} {news : Led} {vs : List Value} {ns : List Int} {n : Nat} {Q : Value → Shared → Prop} (N : News h₀ L s.heap news) (hm : (D, listOf vs.toArray n) ∈ news) (hi : IntsAre vs ns) (hf : ns.length < 2 ^ 62)
    (h : Q (.int (ns.length : Nat) (s.toks + 1)) { s with toks := s.toks + 1 + 1 }) : wpAny (model prog w) A (call (.builtin "len") [.ref D]) Q E s :=
  KM.len_K N hm (by simp [hi.length]) hf h
local macro_rules | `(tactic| walk_at "call builtin:len") => `(tactic| (k_here; (with_reducible show wpAny _ _ (call (Value.builtin "len") [Value.ref _]) _ _ _); k_dflt (refine len_led (by k_asm) (by k_mem) (by assumption) (by omega) ?_; k_whole)))
noncomputable abbrev feedO (c : Addr) (k : Int) (t : Tok) (n : Nat) : Obj := listOf #[.ref c, .int k t] n
theorem next_does (w : World) (g : Obj → Led) (d c : Addr) (us : List Value) (nc : Nat) (ns : List Int) (k : Int) (t : Tok) (n : Nat) (many : Int) (tm : Tok) (hs : Slot d g) (hc : Stands c (listOf us.toArray nc) g) (hi : IntsAre us ns) (hlen : ns.length ≤ 30) (hk0 : 0 ≤ k) (hk1 : k ≤ 100) (hm0 : 0 < many) (hm1 : many ≤ 300) :
    Does w 2 112 (g (feedO c k t n)) [.ref d, .int many tm] (fun r news' => ∃ x t' t'' n', r = .int x t' ∧ 0 ≤ x ∧ x < many ∧ news' = g (feedO c (k + 1) t'' n')) := by
  have hd1 := hs.1 (feedO c k t n)
  have hc1 := hc (feedO c k t n)
  unfold Does
  intro loose mean mg mb dp un gd cn cs a₀ ccd cl outer A₀ base h₀ L m s Q E B F X N T hk hdp hun hret
  refine fill0 (by k_fill; exact ⟨rfl, rfl⟩) ?_
  refine wpAny_call ?_
  k_dflt cell_enter

  k_steps
  all_goals exact hret _ _ _ _ (by k_asm) (by k_asm) ⟨_, _, _, _, rfl, Int.fmod_nonneg_of_pos _ hm0, Int.fmod_lt_of_pos _ hm0, rfl⟩

/- part 7 -/
local macro_rules | `(tactic| walk_at "exec For Name Call cons nil") => `(tactic| (k_here; (rename Fr _ _ _ _ => lF'); (with_unfolding_all refine' For_turns lF' ?_; k_whole)))

noncomputable def rItems (a c : Int) : Nat → List Itm
  | 0 => []
  | n + 1 => .tok (fun t => .int a t) :: rItems (a + c) c n
theorem rItems_length (c : Int) : ∀ (n : Nat) (a : Int), (rItems a c n).length = n
  | 0, _ => rfl
  | n + 1, a => congrArg (· + 1) (rItems_length c n (a + c))
theorem rItems_get (c : Int) : ∀ (n : Nat) (a : Int) (i : Nat), i < n → (rItems a c n)[i]? = some (.tok fun t => .int (a + i * c) t)
  | 0, _, _, h => absurd h (Nat.not_lt_zero _)
  | n + 1, a, 0, _ => by simp [rItems]
  | n + 1, a, i + 1, h => by
    have q := rItems_get c n (a + c) i (Nat.lt_of_succ_lt_succ h)
    have e : a + c + (i : Int) * c = a + ((i + 1 : Nat) : Int) * c := by push_cast; rw [Int.add_mul, Int.one_mul]; omega
    rw [e] at q
    simpa [rItems] using q
section
variable {prog : Program} {w : World} {A : Around} {E : Value → Shared → Prop} {s : Shared} {env : Env} {h₀ : Heap} {body : List Stmt} {Q : Flow → Shared → Prop}
theorem letGo_name {x : Str} {px : Pos} {it v : Value} {Q' : Unit → Shared → Prop} (h : Q' () s) : wpAny (model prog w) A (letOwnedTupleGo (.Name x px) it v) Q' E s := by
  unfold letOwnedTupleGo
  exact wpAny_pure h
theorem ktu_range {x : Str} {px : Pos} {r : Addr} {a b c : Int} {t u v : Tok} {n : Nat} {m₀ : Str → Option Value} {news : Led}
    (hh : A.handled = none) (F : Fr h₀ env.locals s.heap m₀) (N : News h₀ env.locals s.heap news) (hr : IsRange s.heap r a b c t u v) (hsmall : Builtin.Range.small a b c = true) (hn : Builtin.Range.rangeSize a b c = (n : Int))
    (rest₀ : ∀ I : Addr, (∀ p ∈ news, p.1 < I) → ItemsRest prog w A E h₀ env (.Name x px) body Q s [(I, "range_iterator")] [] (rItems a c n) m₀ news) :
    wpAny (model prog w) A (pyIter (.ref r)) (fun it s₂ => TurnsAt prog w A h₀ env (.Name x px) body Q E it s₂) E s := by
  refine wpAny_pyIter_range hr hsmall ?_
  have W : Walks prog w A s.heap.objs.size [s.heap.objs.size] [s.heap.objs.size] n (fun i v => i < n ∧ ∃ t, v = .int (a + i * c) t)
      (fun i h => IsRangeIter h s.heap.objs.size (a + (i : Nat) * c) ((n : Int) - (i : Nat)) c) := (Walks.range hh _ a c n).bound
  refine ktu_core (tk0 := s.toks) (keep := []) (KTurns.ofWalks W fun i v s Q E st q => letGo_name q) (by rw [rItems_length]) ?_ ?_ ?_ ?_ ?_ ?_ ?_ ?_ (F.push _) (fun p hp => ⟨Heap.get?_push_of_some _ (N p hp).1, (N p hp).2⟩) trivial (rest₀ _ fun p hp => Heap.lt_size (N p hp).1)
  · rintro i v h ⟨hin, t, rfl⟩
    exact ⟨_, rItems_get c n a i hin, t, rfl⟩
  · intro i h st
    exact ⟨[(s.heap.objs.size, _)], ⟨⟨rfl, rfl⟩, trivial⟩, fun p hp => by rw [List.mem_singleton.mp hp]; exact st⟩
  · intro b hb
    rw [List.mem_singleton.mp hb]
    exact ⟨List.mem_cons_self .., next_is_new F⟩
  · intro b hb
    rw [List.mem_singleton.mp hb]
    exact List.mem_cons_self ..
  · intro b hb
    rw [List.mem_singleton.mp hb]
    exact .inl (List.mem_cons_self ..)
  · intro hI
    exact absurd F.ns.lt ((List.mem_singleton.mp hI) ▸ Nat.lt_irrefl _)
  · intro p hp hI
    exact absurd (Heap.lt_size (N p hp).1) ((List.mem_singleton.mp hI) ▸ Nat.lt_irrefl _)
  · show IsRangeIter _ _ _ _ _
    rw [hn]
    simpa using Heap.get?_push_size _ rfl
end
theorem rangeSize_up {b : Int} {n : Nat} (h : b = (n : Int)) : Builtin.Range.rangeSize 0 b 1 = (n : Int) := by
  rw [rangeSize_one]; split <;> omega
/-- a map that parts from another at stored names alone -/
noncomputable def Same (stored : List Str) (m₀ m : Str → Option Value) : Prop := ∀ z, stored.contains z = false → m z = m₀ z
theorem Same.shape {stored : List Str} {m₀ m : Str → Option Value} (h : Same stored m₀ m) : m = fun z => if stored.contains z then m z else m₀ z := by
  funext z
  cases hc : stored.contains z with
  | true => simp
  | false => simpa using h z hc

section
variable {prog : Program} {w : World} {A : Around} {E : Value → Shared → Prop} {s : Shared} {env : Env} {h₀ : Heap} {target : Expr} {body : List Stmt} {Q : Flow → Shared → Prop} {ws : List (Addr × String)} {keep : Led}
/-- a loop by a state of one's own: what holds of it and of the items left, and the ledger that it stands for -/
theorem loop_S {σ : Type} (P : List Itm → σ → Prop) (led : σ → Led) (stored : List Str) {m₀ : Str → Option Value} {xs : List Itm} (st₀ : σ) (h0 : P xs st₀)
    (turn : ∀ a r st (u : Str → Option Value) v h tk, P (a :: r) st → a.Is v h → Fr h₀ env.locals h (fun z => if stored.contains z then u z else m₀ z) → AllObj ws (fun its => News h₀ env.locals h (its ++ led st) →
      wpAny (model prog w) A (assign target env v) (fun _ s₂ => wpAny (model prog w) A (execs body env) (UnrPostW h₀ env.locals { s with heap := h, toks := tk } its (fun m' n' => SubL keep n' ∧ ∃ st', P r st' ∧ n' = led st' ∧ Same stored m₀ m') Q) E s₂) E { s with heap := h, toks := tk }))
    (done : ∀ st (u : Str → Option Value) h tk, P [] st → Fr h₀ env.locals h (fun z => if stored.contains z then u z else m₀ z) → News h₀ env.locals h (led st) → Q .next { s with heap := h, toks := tk }) :
    ItemsRest prog w A E h₀ env target body Q s ws keep xs m₀ (led st₀) := by
  refine items_ind (fun xs m news => ∃ st, P xs st ∧ news = led st ∧ Same stored m₀ m) ?_ ?_ _ _ _ ⟨st₀, h0, rfl, fun _ _ => rfl⟩
  · rintro a r m news ⟨st, hP, rfl, hS⟩ v h tk hv F
    rw [hS.shape] at F
    exact turn a r st m v h tk hP hv F
  · rintro m news ⟨st, hP, rfl, hS⟩ h tk F N
    rw [hS.shape] at F
    exact done st m h tk hP F N
end
theorem upd_addrs {d : Addr} {o o' : Obj} : ∀ {l l' : Led}, Upd d o o' l l' → l'.map (·.1) = l.map (·.1)
  | _, _, .head _ => rfl
  | _, _, .tail _ r => congrArg (_ :: ·) (upd_addrs r)
theorem slot_all {d : Addr} {g : Obj → Led} (h : Slot d g) {R : Addr → Prop} {o₀ : Obj} (hR : ∀ p ∈ g o₀, R p.1) (o : Obj) : ∀ p ∈ g o, R p.1 := fun p hp => by
  have e := upd_addrs (h.2 o₀ o)
  have h1 : p.1 ∈ (g o).map (·.1) := List.mem_map.mpr ⟨p, hp, rfl⟩
  rw [e] at h1
  obtain ⟨q, hq, e'⟩ := List.mem_map.mp h1
  exact e' ▸ hR q hq

theorem slot_push {d x : Addr} {o' : Obj} {g : Obj → Led} (h : Slot d g) (hx : x ≠ d) : Slot d (fun o => (x, o') :: g o) := ⟨fun o => .tail _ (h.1 o), fun o o'' => .tail hx (h.2 o o'')⟩
theorem stands_push {c x : Addr} {oc o' : Obj} {g : Obj → Led} (h : Stands c oc g) : Stands c oc (fun o => (x, o') :: g o) := fun o => .tail _ (h o)
theorem menu_range (x : Int) (h : ¬ x < 256) (h' : x < 260) : 0 ≤ ([255, 0, 128, 127] : List Int).getD (x - 256).toNat 0 ∧ ([255, 0, 128, 127] : List Int).getD (x - 256).toNat 0 < 256 := by
  have e : (x - 256).toNat = 0 ∨ (x - 256).toNat = 1 ∨ (x - 256).toNat = 2 ∨ (x - 256).toNat = 3 := by omega
  rcases e with e | e | e | e <;> rw [e] <;> decide
noncomputable def Off (D : Addr) (g : Obj → Led) : Prop := ∀ o, LCg.Off1 D (g o)
theorem Off.all {D : Addr} {g : Obj → Led} {o : Obj} (h : Off D g) : ∀ p ∈ g o, p.1 ≠ D := off1_mem (h o)
local macro_rules | `(tactic| k_all) => `(tactic| exact Off.all (by assumption))
structure OctSt where
  rs : List Value
  acc : List Int
  n1 : Nat
  kk : Int
  t1 : Tok
  nf : Nat
noncomputable def OctP (many : Nat) (k : Int) (xs : List Itm) (st : OctSt) : Prop := ∃ q a', xs = rItems a' 1 q ∧ st.acc.length + q = many ∧ IntsAre st.rs st.acc ∧ (∀ x ∈ st.acc, 0 ≤ x ∧ x < 256) ∧ st.kk = k + st.acc.length
noncomputable def OctL (D : Addr) (g : Obj → Led) (c : Addr) (st : OctSt) : Led := (D, listOf st.rs.toArray st.n1) :: g (feedO c st.kk st.t1 st.nf)
/-- it hands back a new list of so many octets and turns the feed on -/
noncomputable abbrev OutO (g : Obj → Led) (c : Addr) (k : Int) (many : Nat) : Value → Led → Prop := fun r news' => ∃ D vs n xs t' n', r = .ref D ∧ Off D g ∧ IntsAre vs xs ∧ xs.length = many ∧ (∀ x ∈ xs, 0 ≤ x ∧ x < 256) ∧ news' = (D, listOf vs.toArray n) :: g (feedO c (k + many) t' n')
theorem octets_does (w : World) (g : Obj → Led) (d c : Addr) (us : List Value) (nc : Nat) (ns : List Int) (k : Int) (t : Tok) (n : Nat) (many : Nat) (tm : Tok) (hs : Slot d g) (hc : Stands c (listOf us.toArray nc) g) (hi : IntsAre us ns) (hlen : ns.length ≤ 30) (hk0 : 0 ≤ k) (hk1 : k ≤ 90) (hm1 : many ≤ 6) :
    Does w 3 119 (g (feedO c k t n)) [.ref d, .int (many : Int) tm] (OutO g c k many) := by
  have hd1 := hs.1 (feedO c k t n)
  unfold Does
  intro loose mean mg mb dp un gd cn cs a₀ ccd cl outer A₀ base h₀ L m s Q E B F X N T hk hdp hun hret
  refine fill0 (by k_fill; exact ⟨rfl, rfl⟩) ?_
  refine wpAny_call ?_
  k_dflt cell_enter
  repeat' (first | (k_unfold; (try dsimp only)) | (k_end; wrow_close) | ((fail_if_success (with_reducible show wpAny _ _ (pyIter _) _ _ _)); walk1) | (dsimp only; (fail_if_success (with_reducible show wpAny _ _ (pyIter _) _ _ _)); walk1) | (leave1; walk_say "STEP leave1"; try dsimp only))
  rename Fr _ _ _ _ => F1
  rename News _ _ _ _ => N1
  rename IsRange _ _ _ _ _ _ _ _ => R1
  rename (∀ p ∈ g (feedO c k t n), p.1 < _) => lg
  have hdl := ltN (lg _ hd1)
  have hoff : Off _ g := fun o => off1_fun (slot_all hs (R := fun a => a < _) lg o)
  dsimp only at hdl
  with_unfolding_all refine ktu_range (by rfl) F1 N1 R1 (small_one (by decide) (by decide) (by omega) (by omega)) (rangeSize_up rfl) ?_
  intro I lI
  have hlI := ltN (lI _ (List.Mem.head _))
  have hdI := ltN (lI _ (List.Mem.tail _ hd1))
  dsimp only at hlI hdI ⊢
  refine loop_S (OctP many k) (OctL _ g c) [Str.ofString "turn", Str.ofString "number"] ⟨[], [], 0, k, t, n⟩ ⟨many, 0, rfl, Nat.zero_add _, .nil, (by intro x h; cases h), (Int.add_zero k).symm⟩ ?turn ?done
  case turn =>
    rintro a r ⟨rs, acc, n1, kk, t1, nf⟩ u v h tk ⟨q, a', hq, hqn, hrs, hacc, hkk⟩ hv F'
    cases q with
    | zero => cases hq
    | succ q =>
    obtain ⟨rfl, rfl⟩ := List.cons.inj hq
    obtain ⟨t', rfl⟩ := hv
    dsimp only at hrs hacc hkk hqn
    dsimp only [OctL]
    ktu_objs
    (try k_fold)
    repeat' (first | (k_unfold; (try dsimp only)) | (k_end; wrow_close) | ((fail_if_success (with_reducible show wpAny _ _ (call (Value.ref 112) _) _ _ _)); walk1) | (dsimp only; (fail_if_success (with_reducible show wpAny _ _ (call (Value.ref 112) _) _ _ _)); walk1) | (leave1; walk_say "STEP leave1"; try dsimp only))
    rename Fr _ _ _ _ => F2
    rename News _ _ _ _ => N2
    refine' Does.use (next_does w (fun o => (I, _) :: (_, listOf rs.toArray n1) :: g o) d c us nc ns kk t1 nf 260 _ (slot_push (slot_push hs ?ka) ?kb) (stands_push (stands_push hc)) hi hlen (by omega) (by omega) (by decide) (by decide)) ?k1 F2 ?k3 N2 ?k5 ?kK ?kd ?ku ?_
    case ka => exact Nat.ne_of_gt hdl
    case kb => exact Nat.ne_of_gt hdI
    case k1 => k_asm
    case k3 => k_asm
    case k5 => k_asm
    case kK => exact rfl
    case kd => ktr_room
    case ku => ktr_units
    intro r9 n9 h9 tk9 F9 N9 O9
    obtain ⟨x, t', t'', n', rfl, hx0, hx1, rfl⟩ := O9
    dsimp only at N9 ⊢
    k_sweep
    (try k_fold)
    k_steps
    · rename Fr _ _ _ _ => FE
      rename News _ _ _ _ => NE
      simp only [List.push_toArray] at NE
      refine' unr_end (I := I) FE NE (OctL _ g c ⟨rs ++ [.int (x) t'], acc ++ [x], n1 + 1, kk + 1, t'', n'⟩) ?e1 ?e2 ?e3 ?e4 ⟨trivial, _, ⟨q, a' + 1, rfl, ?e5, ?e9, ?e6, ?e7⟩, rfl, ?e8⟩
      case e1 => k_allIn
      case e2 => exact List.forall_mem_cons.mpr ⟨by k_memK, fun p hp => by repeat (first | exact hp | refine List.Mem.tail _ ?_)⟩
      case e3 => exact low_cons hlI (slot_all hs (R := fun a => a < I) (o₀ := feedO c k t n) (fun p hp => lI p (List.Mem.tail _ hp)) _)
      case e4 => repeat (first | exact List.forall_mem_nil _ | (refine List.forall_mem_cons.mpr ⟨by first | exact Nat.le_add_right _ _ | exact Nat.le_refl _, ?_⟩))
      case e9 => exact ints_snoc hrs _ _
      case e5 => (show (acc ++ [_]).length + q = many; rw [List.length_append, List.length_singleton]; omega)
      case e6 =>
        intro y hy
        rcases List.mem_append.mp hy with hy | hy
        · exact hacc y hy
        · rw [List.mem_singleton.mp hy]
          exact ⟨hx0, by assumption⟩
      case e7 => (show kk + 1 = k + ((acc ++ [_]).length : Nat); rw [List.length_append, List.length_singleton, hkk]; push_cast; omega)
      case e8 =>
        intro z h2
        have h3 := h2
        simp only [List.contains_cons, List.contains_nil, Bool.or_eq_false_iff, beq_eq_false_iff_ne, ne_eq, Bool.or_false] at h3
        simp only [h3, h2, if_false, Bool.false_eq_true]
    · rename Fr _ _ _ _ => FE
      rename News _ _ _ _ => NE
      simp only [List.push_toArray] at NE
      refine' unr_end (I := I) FE NE (OctL _ g c ⟨rs ++ [.int ([255, 0, 128, 127].getD (x - 256).toNat 0) _], acc ++ [[255, 0, 128, 127].getD (x - 256).toNat 0], n1 + 1, kk + 1, t'', n'⟩) ?e1 ?e2 ?e3 ?e4 ⟨trivial, _, ⟨q, a' + 1, rfl, ?e5, ?e9, ?e6, ?e7⟩, rfl, ?e8⟩
      case e1 => k_allIn
      case e2 => exact List.forall_mem_cons.mpr ⟨by k_memK, fun p hp => by repeat (first | exact hp | refine List.Mem.tail _ ?_)⟩
      case e3 => exact low_cons hlI (slot_all hs (R := fun a => a < I) (o₀ := feedO c k t n) (fun p hp => lI p (List.Mem.tail _ hp)) _)
      case e4 => repeat (first | exact List.forall_mem_nil _ | (refine List.forall_mem_cons.mpr ⟨by first | exact Nat.le_add_right _ _ | exact Nat.le_refl _, ?_⟩))
      case e9 => exact ints_snoc hrs _ _
      case e5 => (show (acc ++ [_]).length + q = many; rw [List.length_append, List.length_singleton]; omega)
      case e6 =>
        intro y hy
        rcases List.mem_append.mp hy with hy | hy
        · exact hacc y hy
        · rw [List.mem_singleton.mp hy]
          exact menu_range x (by assumption) hx1
      case e7 => (show kk + 1 = k + ((acc ++ [_]).length : Nat); rw [List.length_append, List.length_singleton, hkk]; push_cast; omega)
      case e8 =>
        intro z h2
        have h3 := h2
        simp only [List.contains_cons, List.contains_nil, Bool.or_eq_false_iff, beq_eq_false_iff_ne, ne_eq, Bool.or_false] at h3
        simp only [h3, h2, if_false, Bool.false_eq_true]
  case done =>
    rintro ⟨rs, acc, n1, kk, t1, nf⟩ u h tk ⟨q, a', hq, hqn, hrs, hacc, hkk⟩ F' N'
    cases q with
    | succ q => cases hq
    | zero =>
    dsimp only [OctL] at N'
    dsimp only
    k_steps
    all_goals exact hret _ _ _ _ (by k_asm) (by k_asm) ⟨_, _, _, _, t1, nf, rfl, hoff, hrs, hqn, hacc, by rw [show kk = k + ((acc.length : Nat) : Int) from hkk, show acc.length = many from hqn]⟩

/- part 8 -/
local macro_rules | `(tactic| k_mem) => `(tactic| ((repeat (first | assumption | refine List.mem_cons_of_mem _ ?_)); done))
theorem extend_led {prog : Program} {w : World} {A : Around} {E : Value → Shared → Prop} {s : Shared} {h₀ : Heap} {L D b : Addr} {m : Str → Option Value} {news news' : Led} {rs : List Value} {acc : List Int} {n n2 : Nat} {v v' : Value} {Q : Value → Shared → Prop} (F : Fr h₀ L s.heap m) (N : News h₀ L s.heap news) (hb : (b, listOf #[v, v'] n2) ∈ news) (hi : IntsAre rs acc) (hlen : acc.length ≤ 100)
    (U : Upd D (listOf rs.toArray n) (listOf (rs ++ [v, v']).toArray (n + 1)) news news') (h : ∀ h', Fr h₀ L h' m → News h₀ L h' news' → Q .none { s with heap := h' }) : wpAny (model prog w) A (call (.builtin "list.extend") [.ref D, .ref b]) Q E s := by
  have e := hi.length
  have z := sizeLine_eq
  refine kl_extend F N hb (l := rs ++ [v, v']) (by simp) (by simp) U ?_ ?_ ?_ h
  · simp only [Builtin.List.listTooLong]
    simp
    omega
  · rw [sizeLine_eq]; simp; omega
  · rw [sizeLine_eq]; simp; omega
local macro_rules | `(tactic| walk_at "call builtin:list.extend") => `(tactic| (k_here; (with_reducible show wpAny _ _ (call (Value.builtin _) [Value.ref _, Value.ref _]) _ _ _); k_dflt (refine' extend_led ?F ?N ?b ?i ?l ?U ?_; (case F => k_asm); (case N => k_asm); (case b => k_mem); (case U => k_upd); (case i => assumption); (case l => omega)); intro h' F' N'; (try k_sweep)))

noncomputable def evens (a : Int) : Nat → List Int
  | 0 => []
  | n + 1 => a :: evens (a + 2) n
theorem evens_length : ∀ (n : Nat) (a : Int), (evens a n).length = n
  | 0, _ => rfl
  | n + 1, a => congrArg (· + 1) (evens_length n (a + 2))
theorem evens_mem : ∀ (n : Nat) (a x : Int), x ∈ evens a n → a ≤ x ∧ x + 1 < a + 2 * (n : Int)
  | 0, _, _, h => nomatch h
  | n + 1, a, x, h => by
    rcases List.mem_cons.mp h with rfl | h
    · omega
    · have := evens_mem n (a + 2) x h
      omega
noncomputable def IsT (b : Int) (a : Itm) : Prop := a = .tok (fun t => .int b t)
theorem items_evens : ∀ (n : Nat) (a : Int), Items IsT (rItems a 2 n) (evens a n)
  | 0, _ => trivial
  | n + 1, a => ⟨rfl, items_evens n (a + 2)⟩
theorem rangeSize_two {b : Int} {n : Nat} (h : b = 2 * (n : Int)) : Builtin.Range.rangeSize 0 b 2 = (n : Int) := by
  unfold Builtin.Range.rangeSize
  simp only [show (2 : Int) > 0 by decide, if_true]
  split <;> omega
theorem small_two {b : Int} (h0 : 0 ≤ b) (h1 : b < 1000) : Builtin.Range.small 0 b 2 = true := by
  unfold Builtin.Range.small Builtin.Range.rangeSize
  simp only [Builtin.Range.rangeFitsLong, Bool.and_eq_true, Bool.or_eq_true, decide_eq_true_eq, beq_iff_eq, show (2 : Int) > 0 by decide, if_true]
  split <;> omega
theorem getD_range {xs : List Int} (hx : ∀ x ∈ xs, 0 ≤ x ∧ x < 256) (i : Nat) : 0 ≤ xs.getD i 0 ∧ xs.getD i 0 < 256 := by
  rw [List.getD_eq_getElem?_getD]
  cases h : xs[i]? with
  | none => exact ⟨by decide, by decide⟩
  | some x => exact hx x (List.mem_of_getElem? h)
noncomputable def wordAt (xs : List Int) (i : Int) : Int := Builtin.bitOr (xs.getD i.toNat 0) (xs.getD (i + 1).toNat 0 * 2 ^ Int.toNat 8)
noncomputable def wordsG (bl : Bool) (xs ys : List Int) (i : Int) (f : Int) : List Int × Int := match bl with
  | true => ([Builtin.bitAnd (adc16R (wordAt xs i) (wordAt ys i) (Builtin.bitAnd f 1)) 255, (adc16R (wordAt xs i) (wordAt ys i) (Builtin.bitAnd f 1)).fdiv (2 ^ Int.toNat 8)], adc16F (wordAt xs i) (wordAt ys i) (Builtin.bitAnd f 1))
  | false => ([Builtin.bitAnd (sbc16R (wordAt xs i) (wordAt ys i) (Builtin.bitAnd f 1)) 255, (sbc16R (wordAt xs i) (wordAt ys i) (Builtin.bitAnd f 1)).fdiv (2 ^ Int.toNat 8)], sbc16F (wordAt xs i) (wordAt ys i) (Builtin.bitAnd f 1))
theorem ints_snoc2 {vs : List Value} {xs : List Int} (h : IntsAre vs xs) (x : Int) (t : Tok) (y : Int) (u : Tok) : IntsAre (vs ++ [.int x t, .int y u]) (xs ++ [x, y]) := h.append (.cons x t (.cons y u .nil))

theorem wordsG_big (bl : Bool) (xs ys : List Int) (b f : Int) : (wordsG bl xs ys b f).1.length = 2 := by cases bl <;> rfl
theorem words_does (w : World) (news : Led) (la lb : Addr) (vs us : List Value) (n k : Nat) (xs ys : List Int) (c : Int) (tc : Tok) (bl : Bool) (q : Nat) (ha : (la, listOf vs.toArray n) ∈ news) (hb : (lb, listOf us.toArray k) ∈ news)
    (hi : IntsAre vs xs) (hj : IntsAre us ys) (hl : xs.length = 2 * q) (hl2 : ys.length = 2 * q) (hcap : q ≤ 3) (hx : ∀ x ∈ xs, 0 ≤ x ∧ x < 256) (hy : ∀ y ∈ ys, 0 ≤ y ∧ y < 256) : Does w 3 145 news [.ref la, .ref lb, .int c tc, .bool bl] (OutP news (runLF (wordsG bl xs ys) (evens 0 q) c).1 (runLF (wordsG bl xs ys) (evens 0 q) c).2) := by
  unfold Does
  intro loose mean mg mb dp un gd cn cs a₀ ccd cl outer A₀ base h₀ L m s Q E B F X N T hk hdp hun hret
  refine fill0 (by k_fill; exact ⟨rfl, rfl⟩) ?_
  refine wpAny_call ?_
  k_dflt cell_enter
  repeat' (first | (k_unfold; (try dsimp only)) | (k_end; wrow_close) | ((fail_if_success (with_reducible show wpAny _ _ (pyIter _) _ _ _)); walk1) | (dsimp only; (fail_if_success (with_reducible show wpAny _ _ (pyIter _) _ _ _)); walk1) | (leave1; walk_say "STEP leave1"; try dsimp only))
  rename Fr _ _ _ _ => F1
  rename News _ _ _ _ => N1
  rename IsRange _ _ _ _ _ _ _ _ => R1
  have N2 := news_tail N1
  with_unfolding_all refine ktu_range (by rfl) F1 N2 R1 (small_two (by omega) (by omega)) (rangeSize_two (n := q) (by omega)) ?_
  intro I lI
  have hDI := ltN (lI _ (List.Mem.head _))
  dsimp only at hDI ⊢
  refine loop_LF (Is := IsT) (wordsG bl xs ys) (Str.ofString "flags") [Str.ofString "at", Str.ofString "one", Str.ofString "other", Str.ofString "r"] (evens 0 q) 6 (f₀ := c) (t₀ := tc) (fun _ => 2) (items_evens q 0) (fun b _ f => wordsG_big bl xs ys b f) ?cap rfl .nil ?keep ?turn ?done
  case cap => (rw [sum_const, evens_length]; simp only [List.length_nil]; omega)
  case keep => intro _ _; exact trivial
  case turn =>
    intro i a u v h tk f t rs acc n' hb' hIs hv hrs hlen' F'
    cases hIs
    obtain ⟨t', rfl⟩ := hv
    obtain ⟨hi0, hi1⟩ := evens_mem _ _ _ hb'
    obtain ⟨hx0, hx1⟩ := getD_range hx i.toNat
    obtain ⟨hx2, hx3⟩ := getD_range hx (i + 1).toNat
    obtain ⟨hy0, hy1⟩ := getD_range hy i.toNat
    obtain ⟨hy2, hy3⟩ := getD_range hy (i + 1).toNat
    ktu_objs
    (try k_fold)
    cases bl
    all_goals
      k_steps
      rename Fr _ _ _ _ => FE
      rename News _ _ _ _ => NE
      (try simp only [List.push_toArray] at NE)
      refine' turn_end (I := I) FE NE ?hm ?sub ?hI hDI (fun p hp => lI p (List.Mem.tail _ hp)) ?hi ?hrs ?hy ?hz
      case hm => k_memK
      case sub => exact fun p hp => by repeat (first | exact hp | refine List.Mem.tail _ ?_)
      case hI => k_allIn
      case hi => repeat (first | exact List.forall_mem_nil _ | (refine List.forall_mem_cons.mpr ⟨by first | exact Nat.le_add_right _ _ | exact Nat.le_refl _, ?_⟩))
      case hrs => exact ints_snoc2 hrs _ _ _ _
      case hy => exact rfl
      case hz =>
        intro z h1 h2
        have h3 := h2
        simp only [List.contains_cons, List.contains_nil, Bool.or_eq_false_iff, beq_eq_false_iff_ne, ne_eq, Bool.or_false] at h3
        simp only [h1, h3, h2, if_false, Bool.false_eq_true]
  case done =>
    intro u rs n' t h tk hrs F' N'
    dsimp only
    (try k_fold)
    k_steps
    all_goals (refine does_pair hret (by k_asm) (by k_asm) (by k_memK) (by intro p hp; first | exact hp | exact List.Mem.tail _ hp | exact List.Mem.tail _ (List.Mem.tail _ hp) | (simp only [List.mem_cons]; simp [hp])) (by first | exact off1_fun (by assumption) | exact off1_lt (by assumption) | assumption | exact (‹_ ∧ LCg.Off1 _ _›).2 | exact (‹_ ∧ _ ∧ LCg.Off1 _ _›).2.2 | exact off1_lt (‹_ ∧ AllLt _ _›).2 | (simp only [LCg.Off1, AllLt, and_true] at *; omega)) (by first | exact off1_fun (by assumption) | exact off1_lt (by assumption) | assumption | exact (‹_ ∧ LCg.Off1 _ _›).2 | exact (‹_ ∧ _ ∧ LCg.Off1 _ _›).2.2 | exact off1_lt (‹_ ∧ AllLt _ _›).2 | (simp only [LCg.Off1, AllLt, and_true] at *; omega)) (by assumption) ?_ ?_)
    all_goals rfl
local macro_rules | `(tactic| walk_at "call ref") => `(tactic| (k_here; (with_reducible show wpAny _ _ (call (Value.ref 138) _) _ _ _); k_dflt (refine Does.usePB (by k_asm) (by k_asm) (by k_asm) (by k_asm) (by k_asm) (chained_does _ _ _ _ _ _ _ _ _ _ _ _ _ (by k_mem) (by k_mem) (by assumption) (by assumption) (by first | assumption | omega) (by first | assumption | omega)) (by first | exact rfl | assumption) (by ktr_room) (by ktr_units) ?_); intro P9 D9 us9 n9 t9 c9 h9 tk9 F9 N9 l9 m9 i9; (try simp only [LCg.Off1, and_true] at l9); (try simp only [LCg.Off1, and_true] at m9); walk_at "mine end"))
local macro_rules | `(tactic| walk_at "call ref") => `(tactic| (k_here; (with_reducible show wpAny _ _ (call (Value.ref 159) _) _ _ _); k_dflt (refine Does.usePB (by k_asm) (by k_asm) (by k_asm) (by k_asm) (by k_asm) (turnedL_does _ _ _ _ _ _ _ _ _ _ _ _ (by k_mem) (by assumption) (by first | assumption | omega) (by first | assumption | (with_reducible assumption)) (by first | assumption | (unfold Kind; decide)) (by first | assumption | (unfold Kind; decide))) (by first | exact rfl | assumption) (by ktr_room) (by ktr_units) ?_); intro P9 D9 us9 n9 t9 c9 h9 tk9 F9 N9 l9 m9 i9; (try simp only [LCg.Off1, and_true] at l9); (try simp only [LCg.Off1, and_true] at m9); walk_at "mine end"))
/-- the bit of an int at a place -/
noncomputable def tb (x : Int) (k : Nat) : Prop := x / 2 ^ k % 2 = 1
theorem tb_zero (x : Int) : tb x 0 ↔ x % 2 = 1 := by
  unfold tb; rw [Int.pow_zero, Int.ediv_one]
theorem tb_succ (x : Int) (k : Nat) : tb x (k + 1) ↔ tb (x / 2) k := by
  unfold tb
  rw [show (2 : Int) ^ (k + 1) = 2 * 2 ^ k by rw [Int.pow_succ, Int.mul_comm], ← Int.ediv_ediv_of_nonneg (by decide)]
theorem half_b {t b : Int} (h0 : 0 ≤ b) (h1 : b ≤ 1) : (2 * t + b) / 2 = t := by omega
theorem low_b {t b : Int} (h0 : 0 ≤ b) (h1 : b ≤ 1) : (2 * t + b) % 2 = b := by omega
theorem two_of (x : Int) : ∃ t b, x = 2 * t + b ∧ (b = 0 ∨ b = 1) := ⟨x / 2, x % 2, (Int.mul_ediv_add_emod x 2).symm, Int.emod_two_eq x⟩
theorem and_two {t b u c : Int} (hb : b = 0 ∨ b = 1) (hc : c = 0 ∨ c = 1) : Builtin.bitAnd (2 * t + b) (2 * u + c) = 2 * Builtin.bitAnd t u + b * c := by
  rw [kbt_halves]
  rcases hb with rfl | rfl <;> rcases hc with rfl | rfl <;> rw [half_b (by decide) (by decide), half_b (by decide) (by decide), low_b (by decide) (by decide), low_b (by decide) (by decide)] <;> rfl
theorem or_two {t b u c : Int} (hb : b = 0 ∨ b = 1) (hc : c = 0 ∨ c = 1) : Builtin.bitOr (2 * t + b) (2 * u + c) = 2 * Builtin.bitOr t u + (b + c - b * c) := by
  rw [bitOr_and, bitOr_and, and_two hb hc]
  omega
theorem xor_two {t b u c : Int} (hb : b = 0 ∨ b = 1) (hc : c = 0 ∨ c = 1) : Builtin.bitXor (2 * t + b) (2 * u + c) = 2 * Builtin.bitXor t u + (b + c - 2 * (b * c)) := by
  rw [bitXor_and, bitXor_and, and_two hb hc]
  omega
theorem and_half (x y : Int) : Builtin.bitAnd x y / 2 = Builtin.bitAnd (x / 2) (y / 2) := by
  obtain ⟨t, b, rfl, hb⟩ := two_of x
  obtain ⟨u, c, rfl, hc⟩ := two_of y
  rw [and_two hb hc]
  rcases hb with rfl | rfl <;> rcases hc with rfl | rfl <;> rw [half_b (by decide) (by decide), half_b (by decide) (by decide), half_b (by decide) (by decide)]
theorem and_low (x y : Int) : Builtin.bitAnd x y % 2 = 1 ↔ x % 2 = 1 ∧ y % 2 = 1 := by
  obtain ⟨t, b, rfl, hb⟩ := two_of x
  obtain ⟨u, c, rfl, hc⟩ := two_of y
  rw [and_two hb hc]
  rcases hb with rfl | rfl <;> rcases hc with rfl | rfl <;> rw [low_b (by decide) (by decide), low_b (by decide) (by decide), low_b (by decide) (by decide)] <;> decide
theorem or_half (x y : Int) : Builtin.bitOr x y / 2 = Builtin.bitOr (x / 2) (y / 2) := by
  obtain ⟨t, b, rfl, hb⟩ := two_of x
  obtain ⟨u, c, rfl, hc⟩ := two_of y
  rw [or_two hb hc]
  rcases hb with rfl | rfl <;> rcases hc with rfl | rfl <;> rw [half_b (by decide) (by decide), half_b (by decide) (by decide), half_b (by decide) (by decide)]
theorem or_low (x y : Int) : Builtin.bitOr x y % 2 = 1 ↔ x % 2 = 1 ∨ y % 2 = 1 := by
  obtain ⟨t, b, rfl, hb⟩ := two_of x
  obtain ⟨u, c, rfl, hc⟩ := two_of y
  rw [or_two hb hc]
  rcases hb with rfl | rfl <;> rcases hc with rfl | rfl <;> rw [low_b (by decide) (by decide), low_b (by decide) (by decide), low_b (by decide) (by decide)] <;> decide
theorem xor_half (x y : Int) : Builtin.bitXor x y / 2 = Builtin.bitXor (x / 2) (y / 2) := by
  obtain ⟨t, b, rfl, hb⟩ := two_of x
  obtain ⟨u, c, rfl, hc⟩ := two_of y
  rw [xor_two hb hc]
  rcases hb with rfl | rfl <;> rcases hc with rfl | rfl <;> rw [half_b (by decide) (by decide), half_b (by decide) (by decide), half_b (by decide) (by decide)]
theorem xor_low (x y : Int) : Builtin.bitXor x y % 2 = 1 ↔ ¬ (x % 2 = 1 ↔ y % 2 = 1) := by
  obtain ⟨t, b, rfl, hb⟩ := two_of x
  obtain ⟨u, c, rfl, hc⟩ := two_of y
  rw [xor_two hb hc]
  rcases hb with rfl | rfl <;> rcases hc with rfl | rfl <;> rw [low_b (by decide) (by decide), low_b (by decide) (by decide), low_b (by decide) (by decide)] <;> decide
theorem tb_and : ∀ (k : Nat) (x y : Int), tb (Builtin.bitAnd x y) k ↔ tb x k ∧ tb y k
  | 0, x, y => by rw [tb_zero, tb_zero, tb_zero]; exact and_low x y
  | k + 1, x, y => by rw [tb_succ, tb_succ, tb_succ, and_half]; exact tb_and k _ _
theorem tb_or : ∀ (k : Nat) (x y : Int), tb (Builtin.bitOr x y) k ↔ tb x k ∨ tb y k
  | 0, x, y => by rw [tb_zero, tb_zero, tb_zero]; exact or_low x y
  | k + 1, x, y => by rw [tb_succ, tb_succ, tb_succ, or_half]; exact tb_or k _ _
theorem tb_xor : ∀ (k : Nat) (x y : Int), tb (Builtin.bitXor x y) k ↔ ¬ (tb x k ↔ tb y k)
  | 0, x, y => by rw [tb_zero, tb_zero, tb_zero]; exact xor_low x y
  | k + 1, x, y => by rw [tb_succ, tb_succ, tb_succ, xor_half]; exact tb_xor k _ _
theorem tb_div (x : Int) (k j : Nat) : tb (x / 2 ^ j) k ↔ tb x (j + k) := by
  unfold tb
  rw [Int.pow_add, Int.ediv_ediv_of_nonneg (Int.le_of_lt (kbt_pos _))]
theorem mask_pos (x : Int) (k : Nat) : 0 < Builtin.bitAnd x (2 ^ k) ↔ tb x k := by
  rw [kbt_bit]
  unfold tb
  have h1 := kbt_pos k
  have h2 : x / 2 ^ k % 2 = 0 ∨ x / 2 ^ k % 2 = 1 := by omega
  rcases h2 with h2 | h2 <;> rw [h2] <;> simp
  exact h1
theorem mask_zero (x : Int) (k : Nat) : Builtin.bitAnd x (2 ^ k) = 0 ↔ ¬ tb x k := by
  have h := (bitAnd_range x (y := 2 ^ k) (Int.le_of_lt (kbt_pos k))).1
  rw [← mask_pos]
  omega
theorem tb_lit (x : Int) (k : Nat) (b : Bool) (h : decide (x / 2 ^ k % 2 = 1) = b) : tb x k ↔ b = true := by
  unfold tb; rw [← h]; simp
theorem fdiv8 (x : Int) : x.fdiv (2 ^ Int.toNat 8) = x / 2 ^ 8 := Int.fdiv_eq_ediv_of_nonneg _ (by decide)
theorem fdiv16 (x : Int) : x.fdiv (2 ^ Int.toNat 16) = x / 2 ^ 16 := Int.fdiv_eq_ediv_of_nonneg _ (by decide)
theorem tb_bit {c : Int} (h : c = 0 ∨ c = 1) (k : Nat) : tb c (k + 1) ↔ False := by
  have : c / 2 = 0 := by omega
  rw [tb_succ, this]; unfold tb; simp
theorem tb0 (k : Nat) : tb 0 k ↔ False := by unfold tb; simp
theorem tb_top {r : Int} (h0 : 0 ≤ r) (h1 : r < 256) : tb r 7 ↔ 128 ≤ r := by
  unfold tb; rw [show (2 : Int) ^ 7 = 128 from rfl]; omega
theorem tb_top16 {r : Int} (h0 : 0 ≤ r) (h1 : r < 65536) : tb r 15 ↔ 32768 ≤ r := by
  unfold tb; rw [show (2 : Int) ^ 15 = 32768 from rfl]; omega
theorem tb_ite {p : Prop} [Decidable p] (x y : Int) (k : Nat) : tb (if p then x else y) k ↔ (if p then tb x k else tb y k) := by split <;> exact Iff.rfl
theorem lit (x : Int) (k : Nat) {P : Prop} [Decidable P] (h : decide (x / 2 ^ k % 2 = 1) = decide P) : tb x k ↔ P := by
  unfold tb; exact decide_eq_decide.mp h
theorem szyx0 (v : Int) : tb (szyxF v) 0 ↔ False := by
  unfold szyxF
  rw [tb_or, tb_and, tb_ite, lit (Builtin.bitOr 128 40) 0 (P := False) rfl, lit 64 0 (P := False) rfl, tb0]
  simp
theorem szyx2 (v : Int) : tb (szyxF v) 2 ↔ False := by
  unfold szyxF
  rw [tb_or, tb_and, tb_ite, lit (Builtin.bitOr 128 40) 2 (P := False) rfl, lit 64 2 (P := False) rfl, tb0]
  simp
theorem szyx7 (v : Int) : tb (szyxF v) 7 ↔ tb v 7 := by
  unfold szyxF
  rw [tb_or, tb_and, tb_ite, lit (Builtin.bitOr 128 40) 7 (P := True) rfl, lit 64 7 (P := False) rfl, tb0]
  simp
theorem and1 (x : Int) : Builtin.bitAnd x 1 = 1 ↔ tb x 0 := by rw [bitAnd_m1, tb_zero]
theorem and1' (x : Int) : Builtin.bitAnd x 1 = 0 ↔ ¬ tb x 0 := by rw [bitAnd_m1, tb_zero]; omega
noncomputable def s8 (a : Int) : Int := if 128 ≤ a then a - 256 else a
noncomputable def s16 (a : Int) : Int := if 32768 ≤ a then a - 65536 else a
theorem carry01 {W M : Int} (h0 : 0 ≤ W) (h1 : W < 2 * M) (hM : 0 < M) : W / M = 0 ∨ W / M = 1 := by
  have a := Int.ediv_nonneg h0 (Int.le_of_lt hM)
  have b := Int.ediv_lt_of_lt_mul hM h1
  clear h0 h1
  omega
theorem low256 {W : Int} (h0 : 0 ≤ W) (h1 : W < 512) : W / 256 % 2 = 1 ↔ 256 ≤ W := by omega
theorem low65536 {W : Int} (h0 : 0 ≤ W) (h1 : W < 131072) : W / 65536 % 2 = 1 ↔ 65536 ≤ W := by omega
theorem mod256 (W : Int) : 0 ≤ W % 256 ∧ W % 256 < 256 := ⟨Int.emod_nonneg _ (by decide), Int.emod_lt_of_pos _ (by decide)⟩
theorem mod65536 (W : Int) : 0 ≤ W % 65536 ∧ W % 65536 < 65536 := ⟨Int.emod_nonneg _ (by decide), Int.emod_lt_of_pos _ (by decide)⟩
theorem bounds3 {a b c M : Int} (ha0 : 0 ≤ a) (ha1 : a < M) (hb0 : 0 ≤ b) (hb1 : b < M) (hc : c = 0 ∨ c = 1) : 0 ≤ a + b + c ∧ a + b + c < 2 * M := by
  rcases hc with rfl | rfl <;> omega
/-- the flags that the law reads: the carry, sign and overflow -/
theorem ite_not_iff {q P : Prop} [Decidable q] (h : q ↔ ¬ P) : (if q then False else True) ↔ P := by
  by_cases hP : P <;> simp_all
structure Flags (f : Int) (c s v : Prop) : Prop where
  c : tb f 0 ↔ c
  s : tb f 7 ↔ s
  v : tb f 2 ↔ v
theorem add8_flags {a b c : Int} (ha0 : 0 ≤ a) (ha1 : a < 256) (hb0 : 0 ≤ b) (hb1 : b < 256) (hc : c = 0 ∨ c = 1) :
    Flags (add8F a b c) (256 ≤ a + b + c) (128 ≤ (a + b + c) % 256) (¬ (128 ≤ a ↔ 128 ≤ (a + b + c) % 256) ∧ ¬ (128 ≤ b ↔ 128 ≤ (a + b + c) % 256)) := by
  have hW := bounds3 ha0 ha1 hb0 hb1 hc
  have hm := mod256 (a + b + c)
  have hr : add8R a b c = (a + b + c) % 256 := bitAnd_m8 _
  have hO : add8O a b c = 0 ↔ ¬ (¬ (128 ≤ a ↔ 128 ≤ (a + b + c) % 256) ∧ ¬ (128 ≤ b ↔ 128 ≤ (a + b + c) % 256)) := by
    unfold add8O
    rw [show (128 : Int) = 2 ^ 7 from rfl, mask_zero, tb_and, tb_xor, tb_xor, hr, tb_top ha0 ha1, tb_top hb0 hb1, tb_top hm.1 hm.2]
    rfl
  have hw : (a + b + c).fdiv (2 ^ Int.toNat 8) = 0 ∨ (a + b + c).fdiv (2 ^ Int.toNat 8) = 1 := by
    rw [fdiv8, show (2 : Int) ^ 8 = 256 from rfl]; exact carry01 hW.1 hW.2 (by decide)
  refine ⟨?_, ?_, ?_⟩
  · unfold add8F
    rw [tb_or, tb_or, tb_or, szyx0, tb_and, lit 16 0 (P := False) rfl, tb_ite, tb0, lit 4 0 (P := False) rfl, fdiv8, show (2 : Int) ^ 8 = 256 from rfl]
    simp only [false_or, and_false, ite_self]
    rw [tb_zero]
    exact low256 hW.1 hW.2
  · unfold add8F
    rw [tb_or, tb_or, tb_or, szyx7, tb_and, lit 16 7 (P := False) rfl, tb_ite, tb0, lit 4 7 (P := False) rfl, tb_bit hw, hr, tb_top hm.1 hm.2]
    simp only [or_false, and_false, ite_self]
  · unfold add8F
    rw [tb_or, tb_or, tb_or, szyx2, tb_and, lit 16 2 (P := False) rfl, tb_ite, tb0, lit 4 2 (P := True) rfl, tb_bit hw]
    simp only [or_false, false_or, and_false]
    exact ite_not_iff hO
theorem sub8_flags {a b c : Int} (ha0 : 0 ≤ a) (ha1 : a < 256) (hb0 : 0 ≤ b) (hb1 : b < 256) (hc : c = 0 ∨ c = 1) :
    Flags (sub8F a b c) (a - b - c < 0) (128 ≤ (a - b - c) % 256) (¬ (128 ≤ a ↔ 128 ≤ b) ∧ ¬ (128 ≤ a ↔ 128 ≤ (a - b - c) % 256)) := by
  have hm := mod256 (a - b - c)
  have hr : sub8R a b c = (a - b - c) % 256 := bitAnd_m8 _
  have hO : sub8O a b c = 0 ↔ ¬ (¬ (128 ≤ a ↔ 128 ≤ b) ∧ ¬ (128 ≤ a ↔ 128 ≤ (a - b - c) % 256)) := by
    unfold sub8O
    rw [show (128 : Int) = 2 ^ 7 from rfl, mask_zero, tb_and, tb_xor, tb_xor, hr, tb_top ha0 ha1, tb_top hb0 hb1, tb_top hm.1 hm.2]
    rfl
  refine ⟨?_, ?_, ?_⟩
  · unfold sub8F
    rw [tb_or, tb_or, tb_or, tb_or, szyx0, tb_and, lit 16 0 (P := False) rfl, tb_ite, tb0, lit 4 0 (P := False) rfl, lit 2 0 (P := False) rfl, tb_ite, tb0, lit 1 0 (P := True) rfl]
    simp only [false_or, and_false, ite_self]
    split <;> simp_all
  · unfold sub8F
    rw [tb_or, tb_or, tb_or, tb_or, szyx7, tb_and, lit 16 7 (P := False) rfl, tb_ite, tb0, lit 4 7 (P := False) rfl, lit 2 7 (P := False) rfl, tb_ite, tb0, lit 1 7 (P := False) rfl, hr, tb_top hm.1 hm.2]
    simp only [or_false, and_false, ite_self]
  · unfold sub8F
    rw [tb_or, tb_or, tb_or, tb_or, szyx2, tb_and, lit 16 2 (P := False) rfl, tb_ite, tb0, lit 4 2 (P := True) rfl, lit 2 2 (P := False) rfl, tb_ite, tb0, lit 1 2 (P := False) rfl]
    simp only [or_false, false_or, and_false, ite_self]
    exact ite_not_iff hO
theorem over_of {f : Int} {c s v : Prop} (h : Flags f c s v) : (¬ (0 < Builtin.bitAnd f 128 ↔ 0 < Builtin.bitAnd f 4)) ↔ ¬ (s ↔ v) := by
  rw [show (128 : Int) = 2 ^ 7 from rfl, show (4 : Int) = 2 ^ 2 from rfl, mask_pos, mask_pos, h.s, h.v]
theorem carry_of {f : Int} {c s v : Prop} (h : Flags f c s v) [Decidable c] : Builtin.bitAnd f 1 = if c then 1 else 0 := by
  split
  · exact (and1 f).mpr (h.c.mpr (by assumption))
  · exact (and1' f).mpr fun q => absurd (h.c.mp q) (by assumption)
/-- the sign with signs of a value below twice the half -/
noncomputable def sH (H a : Int) : Int := if H ≤ a then a - 2 * H else a
theorem over_add {H a b c r : Int} (ha0 : 0 ≤ a) (ha1 : a < 2 * H) (hb0 : 0 ≤ b) (hb1 : b < 2 * H) (hc : c = 0 ∨ c = 1) (hr : (r = a + b + c ∧ r < 2 * H) ∨ (r = a + b + c - 2 * H ∧ 0 ≤ r)) :
    (¬ (H ≤ r ↔ (¬ (H ≤ a ↔ H ≤ r) ∧ ¬ (H ≤ b ↔ H ≤ r)))) ↔ sH H a + sH H b + c < 0 := by
  unfold sH
  by_cases x : H ≤ a <;> by_cases y : H ≤ b <;> by_cases z : H ≤ r <;> simp only [x, y, z, if_true, if_false, iff_true, true_iff, iff_false, false_iff, not_true_eq_false, not_false_eq_true, and_self, and_true, and_false, false_and, iff_self, Decidable.not_not] <;> omega
theorem over_sub {H a b c r : Int} (ha0 : 0 ≤ a) (ha1 : a < 2 * H) (hb0 : 0 ≤ b) (hb1 : b < 2 * H) (hc : c = 0 ∨ c = 1) (hr : (r = a - b - c ∧ 0 ≤ r) ∨ (r = a - b - c + 2 * H ∧ r < 2 * H)) :
    (¬ (H ≤ r ↔ (¬ (H ≤ a ↔ H ≤ b) ∧ ¬ (H ≤ a ↔ H ≤ r)))) ↔ sH H a - sH H b - c < 0 := by
  unfold sH
  by_cases x : H ≤ a <;> by_cases y : H ≤ b <;> by_cases z : H ≤ r <;> simp only [x, y, z, if_true, if_false, iff_true, true_iff, iff_false, false_iff, not_true_eq_false, not_false_eq_true, and_self, and_true, and_false, false_and, iff_self, Decidable.not_not] <;> omega
theorem rest_add {W M : Int} (h0 : 0 ≤ W) (h1 : W < 2 * M) : (W % M = W ∧ W % M < M) ∨ (W % M = W - M ∧ 0 ≤ W % M) := by
  by_cases h : W < M
  · rw [Int.emod_eq_of_lt h0 h]; exact .inl ⟨rfl, h⟩
  · have e : W % M = W - M := by
      rw [← Int.sub_emod_right, Int.emod_eq_of_lt (by omega) (by omega)]
    rw [e]; exact .inr ⟨rfl, by omega⟩
theorem rest_sub {W M : Int} (h0 : - M ≤ W) (h1 : W < M) : (W % M = W ∧ 0 ≤ W % M) ∨ (W % M = W + M ∧ W % M < M) := by
  by_cases h : 0 ≤ W
  · rw [Int.emod_eq_of_lt h h1]; exact .inl ⟨rfl, h⟩
  · have e : W % M = W + M := by
      rw [← Int.add_emod_right, Int.emod_eq_of_lt (by omega) (by omega)]
    rw [e]; exact .inr ⟨rfl, by omega⟩
theorem bounds3s {a b c M : Int} (ha0 : 0 ≤ a) (ha1 : a < M) (hb0 : 0 ≤ b) (hb1 : b < M) (hc : c = 0 ∨ c = 1) : - M ≤ a - b - c ∧ a - b - c < M := by
  rcases hc with rfl | rfl <;> omega
theorem add8_over {a b c : Int} (ha0 : 0 ≤ a) (ha1 : a < 256) (hb0 : 0 ≤ b) (hb1 : b < 256) (hc : c = 0 ∨ c = 1) :
    (¬ (0 < Builtin.bitAnd (add8F a b c) 128 ↔ 0 < Builtin.bitAnd (add8F a b c) 4)) ↔ s8 a + s8 b + c < 0 := by
  rw [over_of (add8_flags ha0 ha1 hb0 hb1 hc)]
  have hW := bounds3 ha0 ha1 hb0 hb1 hc
  exact over_add (H := 128) ha0 ha1 hb0 hb1 hc (rest_add (M := 256) hW.1 hW.2)
theorem sub8_over {a b c : Int} (ha0 : 0 ≤ a) (ha1 : a < 256) (hb0 : 0 ≤ b) (hb1 : b < 256) (hc : c = 0 ∨ c = 1) :
    (¬ (0 < Builtin.bitAnd (sub8F a b c) 128 ↔ 0 < Builtin.bitAnd (sub8F a b c) 4)) ↔ s8 a - s8 b - c < 0 := by
  rw [over_of (sub8_flags ha0 ha1 hb0 hb1 hc)]
  have hW := bounds3s ha0 ha1 hb0 hb1 hc
  exact over_sub (H := 128) ha0 ha1 hb0 hb1 hc (rest_sub (M := 256) hW.1 hW.2)
theorem word0 (r : Int) : tb (wordF r) 0 ↔ False := by
  unfold wordF
  rw [tb_or, tb_and, tb_ite, lit 128 0 (P := False) rfl, lit 64 0 (P := False) rfl, tb0]
  simp
theorem word2 (r : Int) : tb (wordF r) 2 ↔ False := by
  unfold wordF
  rw [tb_or, tb_and, tb_ite, lit 128 2 (P := False) rfl, lit 64 2 (P := False) rfl, tb0]
  simp
theorem word7 (r : Int) : tb (wordF r) 7 ↔ tb r 15 := by
  unfold wordF
  rw [tb_or, tb_and, tb_ite, lit 128 7 (P := True) rfl, lit 64 7 (P := False) rfl, tb0, fdiv8, tb_div]
  simp
theorem high0 (x y r : Int) : tb (highF x y r) 0 ↔ False := by
  unfold highF
  rw [tb_or, tb_and, tb_and, lit 40 0 (P := False) rfl, lit 16 0 (P := False) rfl]
  simp
theorem high2 (x y r : Int) : tb (highF x y r) 2 ↔ False := by
  unfold highF
  rw [tb_or, tb_and, tb_and, lit 40 2 (P := False) rfl, lit 16 2 (P := False) rfl]
  simp
theorem high6 (x y r : Int) : tb (highF x y r) 6 ↔ False := by
  unfold highF
  rw [tb_or, tb_and, tb_and, lit 40 6 (P := False) rfl, lit 16 6 (P := False) rfl]
  simp
theorem high7 (x y r : Int) : tb (highF x y r) 7 ↔ False := by
  unfold highF
  rw [tb_or, tb_and, tb_and, lit 40 7 (P := False) rfl, lit 16 7 (P := False) rfl]
  simp
theorem adc16_flags {a b c : Int} (ha0 : 0 ≤ a) (ha1 : a < 65536) (hb0 : 0 ≤ b) (hb1 : b < 65536) (hc : c = 0 ∨ c = 1) :
    Flags (adc16F a b c) (65536 ≤ a + b + c) (32768 ≤ (a + b + c) % 65536) (¬ (32768 ≤ a ↔ 32768 ≤ (a + b + c) % 65536) ∧ ¬ (32768 ≤ b ↔ 32768 ≤ (a + b + c) % 65536)) := by
  have hW := bounds3 ha0 ha1 hb0 hb1 hc
  have hm := mod65536 (a + b + c)
  have hr : adc16R a b c = (a + b + c) % 65536 := bitAnd_m16 _
  have hO : adc16O a b c = 0 ↔ ¬ (¬ (32768 ≤ a ↔ 32768 ≤ (a + b + c) % 65536) ∧ ¬ (32768 ≤ b ↔ 32768 ≤ (a + b + c) % 65536)) := by
    unfold adc16O
    rw [show (32768 : Int) = 2 ^ 15 from rfl, mask_zero, tb_and, tb_xor, tb_xor, hr, tb_top16 ha0 ha1, tb_top16 hb0 hb1, tb_top16 hm.1 hm.2]
    rfl
  have hw : (a + b + c).fdiv (2 ^ Int.toNat 16) = 0 ∨ (a + b + c).fdiv (2 ^ Int.toNat 16) = 1 := by
    rw [fdiv16, show (2 : Int) ^ 16 = 65536 from rfl]; exact carry01 hW.1 hW.2 (by decide)
  refine ⟨?_, ?_, ?_⟩
  · unfold adc16F
    rw [tb_or, tb_or, tb_or, word0, high0, tb_ite, tb0, lit 4 0 (P := False) rfl, fdiv16, show (2 : Int) ^ 16 = 65536 from rfl]
    simp only [false_or, and_false, ite_self]
    rw [tb_zero]
    exact low65536 hW.1 hW.2
  · unfold adc16F
    rw [tb_or, tb_or, tb_or, word7, high7, tb_ite, tb0, lit 4 7 (P := False) rfl, tb_bit hw, hr, tb_top16 hm.1 hm.2]
    simp only [or_false, and_false, ite_self]
  · unfold adc16F
    rw [tb_or, tb_or, tb_or, word2, high2, tb_ite, tb0, lit 4 2 (P := True) rfl, tb_bit hw]
    simp only [or_false, false_or, and_false]
    exact ite_not_iff hO
theorem sbc16_flags {a b c : Int} (ha0 : 0 ≤ a) (ha1 : a < 65536) (hb0 : 0 ≤ b) (hb1 : b < 65536) :
    Flags (sbc16F a b c) (a - b - c < 0) (32768 ≤ (a - b - c) % 65536) (¬ (32768 ≤ a ↔ 32768 ≤ b) ∧ ¬ (32768 ≤ a ↔ 32768 ≤ (a - b - c) % 65536)) := by
  have hm := mod65536 (a - b - c)
  have hr : sbc16R a b c = (a - b - c) % 65536 := bitAnd_m16 _
  have hO : sbc16O a b c = 0 ↔ ¬ (¬ (32768 ≤ a ↔ 32768 ≤ b) ∧ ¬ (32768 ≤ a ↔ 32768 ≤ (a - b - c) % 65536)) := by
    unfold sbc16O
    rw [show (32768 : Int) = 2 ^ 15 from rfl, mask_zero, tb_and, tb_xor, tb_xor, hr, tb_top16 ha0 ha1, tb_top16 hb0 hb1, tb_top16 hm.1 hm.2]
    rfl
  refine ⟨?_, ?_, ?_⟩
  · unfold sbc16F
    rw [tb_or, tb_or, tb_or, tb_or, word0, high0, tb_ite, tb0, lit 4 0 (P := False) rfl, lit 2 0 (P := False) rfl, tb_ite, tb0, lit 1 0 (P := True) rfl]
    simp only [false_or, and_false, ite_self]
    split <;> simp_all
  · unfold sbc16F
    rw [tb_or, tb_or, tb_or, tb_or, word7, high7, tb_ite, tb0, lit 4 7 (P := False) rfl, lit 2 7 (P := False) rfl, tb_ite, tb0, lit 1 7 (P := False) rfl, hr, tb_top16 hm.1 hm.2]
    simp only [or_false, and_false, ite_self]
  · unfold sbc16F
    rw [tb_or, tb_or, tb_or, tb_or, word2, high2, tb_ite, tb0, lit 4 2 (P := True) rfl, lit 2 2 (P := False) rfl, tb_ite, tb0, lit 1 2 (P := False) rfl]
    simp only [or_false, false_or, and_false, ite_self]
    exact ite_not_iff hO
theorem adc16_over {a b c : Int} (ha0 : 0 ≤ a) (ha1 : a < 65536) (hb0 : 0 ≤ b) (hb1 : b < 65536) (hc : c = 0 ∨ c = 1) :
    (¬ (0 < Builtin.bitAnd (adc16F a b c) 128 ↔ 0 < Builtin.bitAnd (adc16F a b c) 4)) ↔ s16 a + s16 b + c < 0 := by
  rw [over_of (adc16_flags ha0 ha1 hb0 hb1 hc)]
  have hW := bounds3 ha0 ha1 hb0 hb1 hc
  exact over_add (H := 32768) ha0 ha1 hb0 hb1 hc (rest_add (M := 65536) hW.1 hW.2)
theorem sbc16_over {a b c : Int} (ha0 : 0 ≤ a) (ha1 : a < 65536) (hb0 : 0 ≤ b) (hb1 : b < 65536) (hc : c = 0 ∨ c = 1) :
    (¬ (0 < Builtin.bitAnd (sbc16F a b c) 128 ↔ 0 < Builtin.bitAnd (sbc16F a b c) 4)) ↔ s16 a - s16 b - c < 0 := by
  rw [over_of (sbc16_flags ha0 ha1 hb0 hb1)]
  have hW := bounds3s ha0 ha1 hb0 hb1 hc
  exact over_sub (H := 32768) ha0 ha1 hb0 hb1 hc (rest_sub (M := 65536) hW.1 hW.2)
theorem tb_ext : ∀ (n : Nat) (x y : Int), 0 ≤ x → x < 2 ^ n → 0 ≤ y → y < 2 ^ n → (∀ k, k < n → (tb x k ↔ tb y k)) → x = y
  | 0, x, y, h0, h1, g0, g1, _ => by rw [Int.pow_zero] at h1 g1; omega
  | n + 1, x, y, h0, h1, g0, g1, h => by
    rw [Int.pow_succ] at h1 g1
    have e := tb_ext n (x / 2) (y / 2) (by omega) (by omega) (by omega) (by omega) fun k hk => by
      rw [← tb_succ, ← tb_succ]; exact h (k + 1) (by omega)
    have e0 := h 0 (by omega)
    rw [tb_zero, tb_zero] at e0
    clear h h0 h1 g0 g1
    omega
theorem add16_flags {x y : Int} (hx0 : 0 ≤ x) (hx1 : x < 65536) (hy0 : 0 ≤ y) (hy1 : y < 65536) : Builtin.bitAnd (add16F x y 196) 197 = 196 + (x + y) / 65536 := by
  have hW := bounds3 hx0 hx1 hy0 hy1 (.inl rfl)
  rw [Int.add_zero] at hW
  have hw : (x + y).fdiv (2 ^ Int.toNat 16) = 0 ∨ (x + y).fdiv (2 ^ Int.toNat 16) = 1 := by
    rw [fdiv16, show (2 : Int) ^ 16 = 65536 from rfl]; exact carry01 hW.1 hW.2 (by decide)
  have hb : ∀ k, tb (add16F x y 196) k ↔ (tb 196 k ∨ tb (highF x y (add16R x y)) k) ∨ tb ((x + y).fdiv (2 ^ Int.toNat 16)) k := by
    intro k
    unfold add16F
    rw [tb_or, tb_or, show Builtin.bitAnd 196 196 = 196 from rfl]
  rw [show (x + y) / 65536 = (x + y).fdiv (2 ^ Int.toNat 16) from (fdiv16 _).symm]
  have hr := bitAnd_range (add16F x y 196) (y := 197) (by decide)
  generalize (x + y).fdiv (2 ^ Int.toNat 16) = q at *
  have h0 : tb (Builtin.bitAnd (add16F x y 196) 197) 0 ↔ tb q 0 := by rw [tb_and, hb, high0, lit 196 0 (P := False) rfl, lit 197 0 (P := True) rfl]; simp
  have hk : ∀ k, tb 197 (k + 1) = tb 196 (k + 1) := fun k => by rw [tb_succ, tb_succ]; rfl
  have h1 : ∀ k, tb (Builtin.bitAnd (add16F x y 196) 197) (k + 1) ↔ tb 196 (k + 1) := by
    intro k
    rw [tb_and, hb, hk]
    exact ⟨fun h => h.2, fun h => ⟨.inl (.inl h), h⟩⟩
  refine tb_ext 8 _ _ hr.1 (Int.lt_of_le_of_lt hr.2 (by decide)) ?_ ?_ fun k _ => ?_
  · rcases hw with rfl | rfl <;> decide
  · rcases hw with rfl | rfl <;> decide
  · cases k with
    | zero => rw [h0, tb_zero, tb_zero]; rcases hw with rfl | rfl <;> decide
    | succ k => rw [h1, tb_succ, tb_succ]; rcases hw with rfl | rfl <;> rfl
theorem and_disj : ∀ (k : Nat) (x y : Int), 0 ≤ x → x < 2 ^ k → Builtin.bitAnd x (y * 2 ^ k) = 0
  | 0, x, y, h0, h1 => by
    have : x = 0 := by rw [Int.pow_zero] at h1; omega
    rw [this, bitAnd_comm, bitAnd_zero]
  | k + 1, x, y, h0, h1 => by
    rw [Int.pow_succ] at h1
    have e : y * 2 ^ (k + 1) = 2 * (y * 2 ^ k) := by rw [Int.pow_succ, ← Int.mul_assoc, Int.mul_comm]
    have e1 : y * 2 ^ (k + 1) / 2 = y * 2 ^ k := by rw [e]; omega
    have e2 : ¬ y * 2 ^ (k + 1) % 2 = 1 := by rw [e]; omega
    rw [kbt_halves, e1, and_disj k (x / 2) y (by omega) (by omega), if_neg (fun q => e2 q.2)]
    rfl
theorem or_disj (k : Nat) (x y : Int) (h0 : 0 ≤ x) (h1 : x < 2 ^ k) : Builtin.bitOr x (y * 2 ^ k) = x + y * 2 ^ k := by
  rw [bitOr_and, and_disj k x y h0 h1, Int.sub_zero]
theorem or_disj8 (x y : Int) (h0 : 0 ≤ x) (h1 : x < 256) : Builtin.bitOr x (y * 2 ^ Int.toNat 8) = x + 256 * y := by
  rw [or_disj (Int.toNat 8) x y h0 h1, show (2 : Int) ^ Int.toNat 8 = 256 from rfl, Int.mul_comm]
noncomputable def val : List Int → Int
  | [] => 0
  | x :: r => x + 256 * val r
noncomputable def sgn : List Int → Int
  | [] => 0
  | [a] => s8 a
  | a :: b :: r => a + 256 * sgn (b :: r)
noncomputable def Octs (xs : List Int) : Prop := ∀ x ∈ xs, 0 ≤ x ∧ x < 256
theorem octs_cons {a : Int} {r : List Int} : Octs (a :: r) ↔ (0 ≤ a ∧ a < 256) ∧ Octs r := by
  unfold Octs; simp
theorem pow256_pos (n : Nat) : (0 : Int) < 256 ^ n := Int.pow_pos (by decide)
theorem val_range : ∀ (xs : List Int), Octs xs → 0 ≤ val xs ∧ val xs < 256 ^ xs.length
  | [], _ => by simp [val]
  | x :: r, h => by
    obtain ⟨hx, hr⟩ := octs_cons.mp h
    have ih := val_range r hr
    rw [List.length_cons, Int.pow_succ]
    simp only [val]
    omega
theorem enum_val : ∀ (xs : List Int) (k : Nat), ((enumFrom k xs).map fun b => b.2 * 2 ^ (8 * b.1).toNat).sum = 256 ^ k * val xs
  | [], k => by simp [enumFrom, val]
  | x :: r, k => by
    have ih := enum_val r (k + 1)
    have e : (2 : Int) ^ (8 * (k : Int)).toNat = 256 ^ k := by
      rw [show (8 * (k : Int)).toNat = 8 * k by omega, Int.pow_mul]; rfl
    simp only [enumFrom, List.map_cons, List.sum_cons, val]
    rw [ih, e, Int.pow_succ, Int.mul_add, Int.mul_assoc, Int.mul_comm x]
theorem whole_val (xs : List Int) : wholeF xs = val xs := by
  have h := enum_val xs 0
  rw [Int.pow_zero, Int.one_mul] at h
  exact h
theorem signed_sgn : ∀ (xs : List Int), xs ≠ [] → Octs xs → signedF (val xs) (xs.length : Nat) = sgn xs
  | [], h, _ => absurd rfl h
  | [a], _, h => by
    obtain ⟨hx, _⟩ := octs_cons.mp h
    show (if (256 : Int) ^ 1 ≤ 2 * (a + 256 * 0) then a + 256 * 0 - 256 ^ 1 else a + 256 * 0) = if 128 ≤ a then a - 256 else a
    simp only [Int.pow_one]
    split <;> split <;> omega
  | a :: b :: r, _, h => by
    obtain ⟨hx, hr⟩ := octs_cons.mp h
    have ih := signed_sgn (b :: r) (by simp) hr
    have hp := pow256_pos r.length
    have e1 : (256 : Int) ^ (b :: r).length = 256 * 256 ^ r.length := by rw [List.length_cons, Int.pow_succ, Int.mul_comm]
    have e2 : (256 : Int) ^ (a :: b :: r).length = 256 * 256 ^ (b :: r).length := by rw [List.length_cons, Int.pow_succ, Int.mul_comm]
    rw [show sgn (a :: b :: r) = a + 256 * sgn (b :: r) from rfl, ← ih]
    rw [show val (a :: b :: r) = a + 256 * val (b :: r) from rfl]
    unfold signedF
    rw [Int.toNat_natCast, Int.toNat_natCast, e2, e1]
    generalize (256 : Int) ^ r.length = p at *
    generalize val (b :: r) = v at *
    split <;> split <;> omega
theorem bit01 (f : Int) : Builtin.bitAnd f 1 = 0 ∨ Builtin.bitAnd f 1 = 1 := by rw [bitAnd_m1]; omega
theorem add8R_eq (a b c : Int) : add8R a b c = (a + b + c) % 256 := bitAnd_m8 _
theorem sub8R_eq (a b c : Int) : sub8R a b c = (a - b - c) % 256 := bitAnd_m8 _
theorem adc16R_eq (a b c : Int) : adc16R a b c = (a + b + c) % 65536 := bitAnd_m16 _
theorem sbc16R_eq (a b c : Int) : sbc16R a b c = (a - b - c) % 65536 := bitAnd_m16 _
theorem step_add {B X Y c r k Vx Vy V T : Int} (h1 : X + Y + c = r + B * k) (h2 : Vx + Vy + k = V + T) : (X + B * Vx) + (Y + B * Vy) + c = (r + B * V) + B * T := by
  have e : B * (Vx + Vy + k) = B * (V + T) := by rw [h2]
  rw [Int.mul_add, Int.mul_add, Int.mul_add] at e
  omega
theorem step_sub {B X Y c r k Vx Vy V T : Int} (h1 : X - Y - c = r - B * k) (h2 : Vx - Vy - k = V - T) : (X + B * Vx) - (Y + B * Vy) - c = (r + B * V) - B * T := by
  have e : B * (Vx - Vy - k) = B * (V - T) := by rw [h2]
  rw [Int.mul_sub, Int.mul_sub, Int.mul_sub] at e
  omega
theorem neg_iff {r B Z : Int} (h0 : 0 ≤ r) (hB : r < B) : r + B * Z < 0 ↔ Z < 0 := by
  constructor
  · intro h
    by_cases z : Z < 0
    · exact z
    · have := Int.mul_nonneg (Int.le_of_lt (Int.lt_of_le_of_lt h0 hB)) (Int.not_lt.mp z)
      omega
  · intro h
    have := Int.mul_le_mul_of_nonneg_left (show Z ≤ -1 by omega) (Int.le_of_lt (Int.lt_of_le_of_lt h0 hB))
    omega
theorem neg_add {B X Y c r k Sx Sy : Int} (h1 : X + Y + c = r + B * k) (h0 : 0 ≤ r) (hB : r < B) : (Sx + Sy + k < 0 ↔ (X + B * Sx) + (Y + B * Sy) + c < 0) := by
  rw [step_add (V := Sx + Sy + k) (T := 0) h1 (Int.add_zero _).symm, Int.mul_zero, Int.add_zero, neg_iff h0 hB]
theorem neg_sub {B X Y c r k Sx Sy : Int} (h1 : X - Y - c = r - B * k) (h0 : 0 ≤ r) (hB : r < B) : (Sx - Sy - k < 0 ↔ (X + B * Sx) - (Y + B * Sy) - c < 0) := by
  rw [step_sub (V := Sx - Sy - k) (T := 0) h1 (Int.sub_zero _).symm, Int.mul_zero, Int.sub_zero, neg_iff h0 hB]
theorem carry_add {W M : Int} (h0 : 0 ≤ W) (h1 : W < 2 * M) : W = W % M + M * (if M ≤ W then 1 else 0) := by
  rcases rest_add h0 h1 with ⟨a, b⟩ | ⟨a, b⟩
  · rw [a] at b ⊢
    rw [if_neg (Int.not_le.mpr b), Int.mul_zero, Int.add_zero]
  · rw [a] at b ⊢
    rw [if_pos (Int.sub_nonneg.mp b), Int.mul_one, Int.sub_add_cancel]
theorem carry_sub {W M : Int} (h0 : - M ≤ W) (h1 : W < M) : W = W % M - M * (if W < 0 then 1 else 0) := by
  rcases rest_sub h0 h1 with ⟨a, b⟩ | ⟨a, b⟩
  · rw [a] at b ⊢
    rw [if_neg (Int.not_lt.mpr b), Int.mul_zero, Int.sub_zero]
  · rw [a] at b ⊢
    rw [if_pos (by omega), Int.mul_one, Int.add_sub_cancel]
/-- what a chain of sums makes -/
theorem chainT : ∀ (xs ys : List Int) (f : Int), xs.length = ys.length → Octs xs → Octs ys →
    (runLF (chainG true) (xs.zip ys) f).1.length = xs.length ∧ Octs (runLF (chainG true) (xs.zip ys) f).1 ∧
    val xs + val ys + Builtin.bitAnd f 1 = val (runLF (chainG true) (xs.zip ys) f).1 + 256 ^ xs.length * Builtin.bitAnd (runLF (chainG true) (xs.zip ys) f).2 1 ∧
    (xs ≠ [] → ((¬ (0 < Builtin.bitAnd (runLF (chainG true) (xs.zip ys) f).2 128 ↔ 0 < Builtin.bitAnd (runLF (chainG true) (xs.zip ys) f).2 4)) ↔ sgn xs + sgn ys + Builtin.bitAnd f 1 < 0))
  | [], [], f, _, _, _ => by
    refine ⟨rfl, (fun x h => nomatch h), ?_, fun h => absurd rfl h⟩
    simp [runLF, val]
  | [], _ :: _, _, h, _, _ => by cases h
  | _ :: _, [], _, h, _, _ => by cases h
  | a :: r, b :: q, f, hl, hx, hy => by
    obtain ⟨⟨ha0, ha1⟩, hr⟩ := octs_cons.mp hx
    obtain ⟨⟨hb0, hb1⟩, hq⟩ := octs_cons.mp hy
    have hc := bit01 f
    generalize hcc : Builtin.bitAnd f 1 = c at *
    have hfl := carry_of (add8_flags ha0 ha1 hb0 hb1 hc)
    obtain ⟨h1, h2, h3, h4⟩ := chainT r q (add8F a b c) (by simpa using hl) hr hq
    have e : runLF (chainG true) ((a :: r).zip (b :: q)) f = (add8R a b c :: (runLF (chainG true) (r.zip q) (add8F a b c)).1, (runLF (chainG true) (r.zip q) (add8F a b c)).2) := by
      rw [List.zip_cons_cons]; simp only [runLF, chainG, hcc, List.singleton_append]
    rw [e]
    have hm := mod256 (a + b + c)
    have hR := add8R_eq a b c
    have hB := bounds3 ha0 ha1 hb0 hb1 hc
    have hk : a + b + c = add8R a b c + 256 * Builtin.bitAnd (add8F a b c) 1 := by rw [hfl, hR]; exact carry_add hB.1 hB.2
    rw [← hR] at hm
    generalize hgR : (runLF (chainG true) (r.zip q) (add8F a b c)).1 = R at *
    generalize hgF : (runLF (chainG true) (r.zip q) (add8F a b c)).2 = F at *
    refine ⟨by simp [h1], octs_cons.mpr ⟨hm, h2⟩, ?_, fun _ => ?_⟩
    · simp only [val, List.length_cons]
      rw [Int.pow_succ, Int.mul_comm _ 256, Int.mul_assoc]
      exact step_add hk h3
    · cases r with
      | nil =>
        cases q with
        | cons => simp at hl
        | nil =>
          simp only [List.zip_nil_left, runLF] at hgF
          rw [← hgF]
          exact add8_over ha0 ha1 hb0 hb1 hc
      | cons a' r =>
        cases q with
        | nil => simp at hl
        | cons b' q =>
          rw [h4 (by simp), show sgn (a :: a' :: r) = a + 256 * sgn (a' :: r) from rfl, show sgn (b :: b' :: q) = b + 256 * sgn (b' :: q) from rfl]
          exact neg_add hk hm.1 hm.2
theorem chainF : ∀ (xs ys : List Int) (f : Int), xs.length = ys.length → Octs xs → Octs ys →
    (runLF (chainG false) (xs.zip ys) f).1.length = xs.length ∧ Octs (runLF (chainG false) (xs.zip ys) f).1 ∧
    val xs - val ys - Builtin.bitAnd f 1 = val (runLF (chainG false) (xs.zip ys) f).1 - 256 ^ xs.length * Builtin.bitAnd (runLF (chainG false) (xs.zip ys) f).2 1 ∧
    (xs ≠ [] → ((¬ (0 < Builtin.bitAnd (runLF (chainG false) (xs.zip ys) f).2 128 ↔ 0 < Builtin.bitAnd (runLF (chainG false) (xs.zip ys) f).2 4)) ↔ sgn xs - sgn ys - Builtin.bitAnd f 1 < 0))
  | [], [], f, _, _, _ => by
    refine ⟨rfl, (fun x h => nomatch h), ?_, fun h => absurd rfl h⟩
    simp [runLF, val]
  | [], _ :: _, _, h, _, _ => by cases h
  | _ :: _, [], _, h, _, _ => by cases h
  | a :: r, b :: q, f, hl, hx, hy => by
    obtain ⟨⟨ha0, ha1⟩, hr⟩ := octs_cons.mp hx
    obtain ⟨⟨hb0, hb1⟩, hq⟩ := octs_cons.mp hy
    have hc := bit01 f
    generalize hcc : Builtin.bitAnd f 1 = c at *
    have hfl := carry_of (sub8_flags ha0 ha1 hb0 hb1 hc)
    obtain ⟨h1, h2, h3, h4⟩ := chainF r q (sub8F a b c) (by simpa using hl) hr hq
    have e : runLF (chainG false) ((a :: r).zip (b :: q)) f = (sub8R a b c :: (runLF (chainG false) (r.zip q) (sub8F a b c)).1, (runLF (chainG false) (r.zip q) (sub8F a b c)).2) := by
      rw [List.zip_cons_cons]; simp only [runLF, chainG, hcc, List.singleton_append]
    rw [e]
    have hm := mod256 (a - b - c)
    have hR := sub8R_eq a b c
    have hB := bounds3s ha0 ha1 hb0 hb1 hc
    have hk : a - b - c = sub8R a b c - 256 * Builtin.bitAnd (sub8F a b c) 1 := by rw [hfl, hR]; exact carry_sub hB.1 hB.2
    rw [← hR] at hm
    generalize hgR : (runLF (chainG false) (r.zip q) (sub8F a b c)).1 = R at *
    generalize hgF : (runLF (chainG false) (r.zip q) (sub8F a b c)).2 = F at *
    refine ⟨by simp [h1], octs_cons.mpr ⟨hm, h2⟩, ?_, fun _ => ?_⟩
    · simp only [val, List.length_cons]
      rw [Int.pow_succ, Int.mul_comm _ 256, Int.mul_assoc]
      exact step_sub hk h3
    · cases r with
      | nil =>
        cases q with
        | cons => simp at hl
        | nil =>
          simp only [List.zip_nil_left, runLF] at hgF
          rw [← hgF]
          exact sub8_over ha0 ha1 hb0 hb1 hc
      | cons a' r =>
        cases q with
        | nil => simp at hl
        | cons b' q =>
          rw [h4 (by simp), show sgn (a :: a' :: r) = a + 256 * sgn (a' :: r) from rfl, show sgn (b :: b' :: q) = b + 256 * sgn (b' :: q) from rfl]
          exact neg_sub hk hm.1 hm.2
theorem wordAt_shift (a b : Int) (xs : List Int) (i : Int) (h : 0 ≤ i) : wordAt (a :: b :: xs) (i + 2) = wordAt xs i := by
  unfold wordAt
  rw [show (i + 2).toNat = i.toNat + 1 + 1 by omega, show (i + 2 + 1).toNat = (i + 1).toNat + 1 + 1 by omega, List.getD_cons_succ, List.getD_cons_succ, List.getD_cons_succ, List.getD_cons_succ]
theorem wordsG_shift (bl : Bool) (a b c d : Int) (xs ys : List Int) (i : Int) (h : 0 ≤ i) (f : Int) : wordsG bl (a :: b :: xs) (c :: d :: ys) (i + 2) f = wordsG bl xs ys i f := by
  cases bl <;> simp only [wordsG, wordAt_shift _ _ _ _ h]
theorem words_shift (bl : Bool) (a b c d : Int) (xs ys : List Int) : ∀ (q : Nat) (i : Int) (f : Int), 0 ≤ i → runLF (wordsG bl (a :: b :: xs) (c :: d :: ys)) (evens (i + 2) q) f = runLF (wordsG bl xs ys) (evens i q) f
  | 0, _, _, _ => rfl
  | q + 1, i, f, h => by
    simp only [evens, runLF, wordsG_shift bl a b c d xs ys i h f]
    rw [words_shift bl a b c d xs ys q (i + 2) _ (by omega)]
theorem word_two (a b : Int) (r : List Int) (h0 : 0 ≤ a) (h1 : a < 256) : wordAt (a :: b :: r) 0 = a + 256 * b := by
  unfold wordAt
  exact or_disj8 a b h0 h1
theorem fdiv256 (r : Int) : r.fdiv (2 ^ Int.toNat 8) = r / 256 := fdiv8 r
theorem two_val (a b v : Int) : a + 256 * (b + 256 * v) = (a + 256 * b) + 65536 * v := by omega
theorem two_rest (r v : Int) : r % 256 + 256 * (r / 256 + 256 * v) = r + 65536 * v := by omega
theorem two_low {r : Int} (h0 : 0 ≤ r) (h1 : r < 65536) : (0 ≤ r % 256 ∧ r % 256 < 256) ∧ 0 ≤ r / 256 ∧ r / 256 < 256 := by omega
theorem two_top {a b : Int} (ha0 : 0 ≤ a) (ha1 : a < 256) (hb0 : 0 ≤ b) (hb1 : b < 256) : 0 ≤ a + 256 * b ∧ a + 256 * b < 65536 := by omega
theorem len_two {a b : Int} {xs : List Int} {q : Nat} (h : (a :: b :: xs).length = 2 * (q + 1)) : xs.length = 2 * q := by
  simp only [List.length_cons] at h
  omega
theorem len_ne {xs : List Int} {q : Nat} (h : xs.length = 2 * q) (hq : ¬ q = 0) : xs ≠ [] := by
  intro e
  rw [e] at h
  simp at h
  omega
theorem sgn_two (a b : Int) (ha : 0 ≤ a ∧ a < 256) (hb : 0 ≤ b ∧ b < 256) : sgn [a, b] = s16 (a + 256 * b) := by
  show a + 256 * s8 b = s16 (a + 256 * b)
  unfold s8 s16
  split <;> split <;> omega
theorem sgn_more (a b : Int) {r : List Int} (h : r ≠ []) : sgn (a :: b :: r) = a + 256 * (b + 256 * sgn r) := by
  cases r with
  | nil => exact absurd rfl h
  | cons c r => rfl
theorem wordsT : ∀ (q : Nat) (xs ys : List Int) (f : Int), xs.length = 2 * q → ys.length = 2 * q → Octs xs → Octs ys →
    (runLF (wordsG true xs ys) (evens 0 q) f).1.length = 2 * q ∧ Octs (runLF (wordsG true xs ys) (evens 0 q) f).1 ∧
    val xs + val ys + Builtin.bitAnd f 1 = val (runLF (wordsG true xs ys) (evens 0 q) f).1 + 65536 ^ q * Builtin.bitAnd (runLF (wordsG true xs ys) (evens 0 q) f).2 1 ∧
    (0 < q → ((¬ (0 < Builtin.bitAnd (runLF (wordsG true xs ys) (evens 0 q) f).2 128 ↔ 0 < Builtin.bitAnd (runLF (wordsG true xs ys) (evens 0 q) f).2 4)) ↔ sgn xs + sgn ys + Builtin.bitAnd f 1 < 0))
  | 0, xs, ys, f, hx, hy, _, _ => by
    have ex := List.length_eq_zero_iff.mp hx
    have ey := List.length_eq_zero_iff.mp hy
    subst ex; subst ey
    refine ⟨rfl, (fun x h => nomatch h), ?_, fun h => absurd h (by decide)⟩
    simp [runLF, val, evens]
  | q + 1, xs, ys, f, hx, hy, ox, oy => by
    match xs, ys, hx, hy with
    | [], _, hx, _ => simp at hx
    | [_], _, hx, _ => simp at hx; omega
    | _ :: _ :: _, [], _, hy => simp at hy
    | _ :: _ :: _, [_], _, hy => simp at hy; omega
    | a :: b :: xs, a2 :: b2 :: ys, hx, hy =>
    obtain ⟨⟨ha0, ha1⟩, ox⟩ := octs_cons.mp ox
    obtain ⟨⟨hb0, hb1⟩, ox⟩ := octs_cons.mp ox
    obtain ⟨⟨hc0, hc1⟩, oy⟩ := octs_cons.mp oy
    obtain ⟨⟨hd0, hd1⟩, oy⟩ := octs_cons.mp oy
    have hc := bit01 f
    generalize hcc : Builtin.bitAnd f 1 = c at *
    have w1 : wordAt (a :: b :: xs) 0 = a + 256 * b := word_two a b xs ha0 ha1
    have w2 : wordAt (a2 :: b2 :: ys) 0 = a2 + 256 * b2 := word_two a2 b2 ys hc0 hc1
    generalize hX : a + 256 * b = X at *
    generalize hY : a2 + 256 * b2 = Y at *
    obtain ⟨hX0, hX1⟩ := hX ▸ two_top ha0 ha1 hb0 hb1
    obtain ⟨hY0, hY1⟩ := hY ▸ two_top hc0 hc1 hd0 hd1
    have hfl := carry_of (adc16_flags (c := c) hX0 hX1 hY0 hY1 hc)
    have hxl := len_two hx
    have hyl := len_two hy
    obtain ⟨h1, h2, h3, h4⟩ := wordsT q xs ys (adc16F X Y c) hxl hyl ox oy
    have e : runLF (wordsG true (a :: b :: xs) (a2 :: b2 :: ys)) (evens 0 (q + 1)) f = (Builtin.bitAnd (adc16R X Y c) 255 :: (adc16R X Y c).fdiv (2 ^ Int.toNat 8) :: (runLF (wordsG true xs ys) (evens 0 q) (adc16F X Y c)).1, (runLF (wordsG true xs ys) (evens 0 q) (adc16F X Y c)).2) := by
      have hs := words_shift true a b a2 b2 xs ys q 0 (adc16F X Y c) (by decide)
      simp only [evens, runLF]
      rw [show wordsG true (a :: b :: xs) (a2 :: b2 :: ys) 0 f = ([Builtin.bitAnd (adc16R X Y c) 255, (adc16R X Y c).fdiv (2 ^ Int.toNat 8)], adc16F X Y c) by simp only [wordsG, hcc, w1, w2]]
      dsimp only
      rw [hs]
      rfl
    rw [e]
    have hm := mod65536 (X + Y + c)
    have hR := adc16R_eq X Y c
    have hB := bounds3 hX0 hX1 hY0 hY1 hc
    have hk : X + Y + c = adc16R X Y c + 65536 * Builtin.bitAnd (adc16F X Y c) 1 := by rw [hfl, hR]; exact carry_add hB.1 hB.2
    rw [← hR] at hm
    have hlo := two_low hm.1 hm.2
    rw [fdiv256, bitAnd_m8]
    generalize hgR : (runLF (wordsG true xs ys) (evens 0 q) (adc16F X Y c)).1 = R at *
    generalize hgF : (runLF (wordsG true xs ys) (evens 0 q) (adc16F X Y c)).2 = F at *
    refine ⟨by simp only [List.length_cons, h1]; rfl, octs_cons.mpr ⟨hlo.1, octs_cons.mpr ⟨hlo.2, h2⟩⟩, ?_, fun _ => ?_⟩
    · simp only [val]
      rw [Int.pow_succ, Int.mul_comm _ 65536, Int.mul_assoc, two_val, two_val, two_rest, hX, hY]
      exact step_add hk h3
    · by_cases hq : q = 0
      · subst hq
        have ex := List.length_eq_zero_iff.mp hxl
        have ey := List.length_eq_zero_iff.mp hyl
        subst ex; subst ey
        simp only [evens, runLF] at hgF
        rw [← hgF, sgn_two a b ⟨ha0, ha1⟩ ⟨hb0, hb1⟩, sgn_two a2 b2 ⟨hc0, hc1⟩ ⟨hd0, hd1⟩, hX, hY]
        exact adc16_over hX0 hX1 hY0 hY1 hc
      · rw [h4 (Nat.pos_of_ne_zero hq), sgn_more _ _ (len_ne hxl hq), sgn_more _ _ (len_ne hyl hq), two_val, two_val, hX, hY]
        exact neg_add hk hm.1 hm.2
theorem wordsF : ∀ (q : Nat) (xs ys : List Int) (f : Int), xs.length = 2 * q → ys.length = 2 * q → Octs xs → Octs ys →
    (runLF (wordsG false xs ys) (evens 0 q) f).1.length = 2 * q ∧ Octs (runLF (wordsG false xs ys) (evens 0 q) f).1 ∧
    val xs - val ys - Builtin.bitAnd f 1 = val (runLF (wordsG false xs ys) (evens 0 q) f).1 - 65536 ^ q * Builtin.bitAnd (runLF (wordsG false xs ys) (evens 0 q) f).2 1 ∧
    (0 < q → ((¬ (0 < Builtin.bitAnd (runLF (wordsG false xs ys) (evens 0 q) f).2 128 ↔ 0 < Builtin.bitAnd (runLF (wordsG false xs ys) (evens 0 q) f).2 4)) ↔ sgn xs - sgn ys - Builtin.bitAnd f 1 < 0))
  | 0, xs, ys, f, hx, hy, _, _ => by
    have ex := List.length_eq_zero_iff.mp hx
    have ey := List.length_eq_zero_iff.mp hy
    subst ex; subst ey
    refine ⟨rfl, (fun x h => nomatch h), ?_, fun h => absurd h (by decide)⟩
    simp [runLF, val, evens]
  | q + 1, xs, ys, f, hx, hy, ox, oy => by
    match xs, ys, hx, hy with
    | [], _, hx, _ => simp at hx
    | [_], _, hx, _ => simp at hx; omega
    | _ :: _ :: _, [], _, hy => simp at hy
    | _ :: _ :: _, [_], _, hy => simp at hy; omega
    | a :: b :: xs, a2 :: b2 :: ys, hx, hy =>
    obtain ⟨⟨ha0, ha1⟩, ox⟩ := octs_cons.mp ox
    obtain ⟨⟨hb0, hb1⟩, ox⟩ := octs_cons.mp ox
    obtain ⟨⟨hc0, hc1⟩, oy⟩ := octs_cons.mp oy
    obtain ⟨⟨hd0, hd1⟩, oy⟩ := octs_cons.mp oy
    have hc := bit01 f
    generalize hcc : Builtin.bitAnd f 1 = c at *
    have w1 : wordAt (a :: b :: xs) 0 = a + 256 * b := word_two a b xs ha0 ha1
    have w2 : wordAt (a2 :: b2 :: ys) 0 = a2 + 256 * b2 := word_two a2 b2 ys hc0 hc1
    generalize hX : a + 256 * b = X at *
    generalize hY : a2 + 256 * b2 = Y at *
    obtain ⟨hX0, hX1⟩ := hX ▸ two_top ha0 ha1 hb0 hb1
    obtain ⟨hY0, hY1⟩ := hY ▸ two_top hc0 hc1 hd0 hd1
    have hfl := carry_of (sbc16_flags (c := c) hX0 hX1 hY0 hY1)
    have hxl := len_two hx
    have hyl := len_two hy
    obtain ⟨h1, h2, h3, h4⟩ := wordsF q xs ys (sbc16F X Y c) hxl hyl ox oy
    have e : runLF (wordsG false (a :: b :: xs) (a2 :: b2 :: ys)) (evens 0 (q + 1)) f = (Builtin.bitAnd (sbc16R X Y c) 255 :: (sbc16R X Y c).fdiv (2 ^ Int.toNat 8) :: (runLF (wordsG false xs ys) (evens 0 q) (sbc16F X Y c)).1, (runLF (wordsG false xs ys) (evens 0 q) (sbc16F X Y c)).2) := by
      have hs := words_shift false a b a2 b2 xs ys q 0 (sbc16F X Y c) (by decide)
      simp only [evens, runLF]
      rw [show wordsG false (a :: b :: xs) (a2 :: b2 :: ys) 0 f = ([Builtin.bitAnd (sbc16R X Y c) 255, (sbc16R X Y c).fdiv (2 ^ Int.toNat 8)], sbc16F X Y c) by simp only [wordsG, hcc, w1, w2]]
      dsimp only
      rw [hs]
      rfl
    rw [e]
    have hm := mod65536 (X - Y - c)
    have hR := sbc16R_eq X Y c
    have hB := bounds3s hX0 hX1 hY0 hY1 hc
    have hk : X - Y - c = sbc16R X Y c - 65536 * Builtin.bitAnd (sbc16F X Y c) 1 := by rw [hfl, hR]; exact carry_sub hB.1 hB.2
    rw [← hR] at hm
    have hlo := two_low hm.1 hm.2
    rw [fdiv256, bitAnd_m8]
    generalize hgR : (runLF (wordsG false xs ys) (evens 0 q) (sbc16F X Y c)).1 = R at *
    generalize hgF : (runLF (wordsG false xs ys) (evens 0 q) (sbc16F X Y c)).2 = F at *
    refine ⟨by simp only [List.length_cons, h1]; rfl, octs_cons.mpr ⟨hlo.1, octs_cons.mpr ⟨hlo.2, h2⟩⟩, ?_, fun _ => ?_⟩
    · simp only [val]
      rw [Int.pow_succ, Int.mul_comm _ 65536, Int.mul_assoc, two_val, two_val, two_rest, hX, hY]
      exact step_sub hk h3
    · by_cases hq : q = 0
      · subst hq
        have ex := List.length_eq_zero_iff.mp hxl
        have ey := List.length_eq_zero_iff.mp hyl
        subst ex; subst ey
        simp only [evens, runLF] at hgF
        rw [← hgF, sgn_two a b ⟨ha0, ha1⟩ ⟨hb0, hb1⟩, sgn_two a2 b2 ⟨hc0, hc1⟩ ⟨hd0, hd1⟩, hX, hY]
        exact sbc16_over hX0 hX1 hY0 hY1 hc
      · rw [h4 (Nat.pos_of_ne_zero hq), sgn_more _ _ (len_ne hxl hq), sgn_more _ _ (len_ne hyl hq), two_val, two_val, hX, hY]
        exact neg_sub hk hm.1 hm.2

/- part 9 -/

section
variable {prog : Program} {w : World} {A : Around} {E : Value → Shared → Prop} {s : Shared} {env : Env} {h₀ : Heap} {target : Expr} {body : List Stmt} {Q : Flow → Shared → Prop} {ws : List (Addr × String)} {keep : Led}
/-- a loop that leaves the ledger as it stood -/
theorem loop_K {L0 : Led} (stored : List Str) {m₀ : Str → Option Value} {xs : List Itm} (hkeep : SubL keep L0)
    (turn : ∀ a ∈ xs, ∀ (u : Str → Option Value) v h tk, a.Is v h → Fr h₀ env.locals h (fun z => if stored.contains z then u z else m₀ z) → AllObj ws (fun its => News h₀ env.locals h (its ++ L0) →
      wpAny (model prog w) A (assign target env v) (fun _ s₂ => wpAny (model prog w) A (execs body env) (UnrPostW h₀ env.locals { s with heap := h, toks := tk } its (fun m' n' => n' = L0 ∧ Same stored m₀ m') Q) E s₂) E { s with heap := h, toks := tk }))
    (done : ∀ (u : Str → Option Value) h tk, Fr h₀ env.locals h (fun z => if stored.contains z then u z else m₀ z) → News h₀ env.locals h L0 → Q .next { s with heap := h, toks := tk }) :
    ItemsRest prog w A E h₀ env target body Q s ws keep xs m₀ L0 := by
  refine loop_S (σ := Unit) (fun items _ => ∀ a ∈ items, a ∈ xs) (fun _ => L0) stored () (fun _ h => h) ?_ ?_
  · intro a r _ u v h tk hP hv F
    refine allObj_mono (turn a (hP a (.head _)) u v h tk hv F) fun its _ hN N => wpAny_mono (hN N) (fun _ s₂ h₂ => wpAny_mono h₂ (fun fl s₃ p => ?_) fun _ _ e => e) fun _ _ e => e
    have fin : UnrEndW h₀ env.locals { s with heap := h, toks := tk } its (fun m' n' => n' = L0 ∧ Same stored m₀ m') s₃ → UnrEndW h₀ env.locals { s with heap := h, toks := tk } its (fun m' n' => SubL keep n' ∧ ∃ st' : Unit, (∀ a ∈ r, a ∈ xs) ∧ n' = L0 ∧ Same stored m₀ m') s₃ := by
      rintro ⟨h', tk', m', n', e, F', N', off, rfl, hS⟩
      exact ⟨h', tk', m', _, e, F', N', off, hkeep, (), fun a ha => hP a (.tail _ ha), rfl, hS⟩
    cases fl with
    | ret v => exact p
    | brk => exact p
    | next => exact fin p
    | cont => exact fin p
  · exact fun _ u h tk _ F N => done u h tk F N
end

theorem runLF_length {β : Type} (g : β → Int → List Int × Int) (k : Nat) (h : ∀ b f, (g b f).1.length = k) : ∀ (bs : List β) (f : Int), (runLF g bs f).1.length = k * bs.length
  | [], _ => rfl
  | b :: r, f => by
    show ((g b f).1 ++ (runLF g r (g b f).2).1).length = _
    rw [List.length_append, h, runLF_length g k h r, List.length_cons, Nat.mul_succ, Nat.add_comm]
theorem runLF_range {β : Type} (g : β → Int → List Int × Int) (R : Int → Prop) (h : ∀ b f, ∀ x ∈ (g b f).1, R x) : ∀ (bs : List β) (f : Int), ∀ x ∈ (runLF g bs f).1, R x
  | [], _, _, hx => nomatch hx
  | b :: r, f, x, hx => by
    have hx' : x ∈ (g b f).1 ++ (runLF g r (g b f).2).1 := hx
    rcases List.mem_append.mp hx' with hx' | hx'
    · exact h b f x hx'
    · exact runLF_range g R h r _ x hx'
theorem oct_of (x : Int) : 0 ≤ Builtin.bitAnd x 255 ∧ Builtin.bitAnd x 255 < 256 := by
  have h := bitAnd_range x (y := 255) (by decide)
  omega
theorem word_of (x : Int) : 0 ≤ (Builtin.bitAnd x 65535).fdiv (2 ^ Int.toNat 8) ∧ (Builtin.bitAnd x 65535).fdiv (2 ^ Int.toNat 8) < 256 := by
  have h := bitAnd_range x (y := 65535) (by decide)
  rw [show ((2 : Int) ^ Int.toNat 8) = 256 from rfl, Int.fdiv_eq_ediv_of_nonneg _ (by decide)]
  omega
theorem chain_len (bl : Bool) (xs ys : List Int) (f : Int) : (runLF (chainG bl) (xs.zip ys) f).1.length = min xs.length ys.length := by
  rw [runLF_length _ 1 (chainG_big bl), List.length_zip, Nat.one_mul]
theorem chain_rng (bl : Bool) (bs : List (Int × Int)) (f : Int) : ∀ x ∈ (runLF (chainG bl) bs f).1, 0 ≤ x ∧ x < 256 := by
  refine runLF_range _ _ ?_ bs f
  intro b f x hx
  cases bl
  · rw [List.mem_singleton.mp hx]; exact oct_of _
  · rw [List.mem_singleton.mp hx]; exact oct_of _
theorem words_len (bl : Bool) (xs ys : List Int) (q : Nat) (f : Int) : (runLF (wordsG bl xs ys) (evens 0 q) f).1.length = 2 * q := by
  rw [runLF_length _ 2 (by intro b f; cases bl <;> rfl), evens_length]
theorem words_rng (bl : Bool) (xs ys : List Int) (bs : List Int) (f : Int) : ∀ x ∈ (runLF (wordsG bl xs ys) bs f).1, 0 ≤ x ∧ x < 256 := by
  refine runLF_range _ _ ?_ bs f
  intro b f x hx
  cases bl
  · rcases List.mem_cons.mp hx with rfl | hx
    · exact oct_of _
    · rw [List.mem_singleton.mp hx]; exact word_of _
  · rcases List.mem_cons.mp hx with rfl | hx
    · exact oct_of _
    · rw [List.mem_singleton.mp hx]; exact word_of _
theorem words2_does (w : World) (news : Led) (la lb : Addr) (vs us : List Value) (n k : Nat) (xs ys : List Int) (c : Int) (tc : Tok) (bl : Bool) (ha : (la, listOf vs.toArray n) ∈ news) (hb : (lb, listOf us.toArray k) ∈ news)
    (hi : IntsAre vs xs) (hj : IntsAre us ys) (hl : xs.length = ys.length) (hcap : xs.length ≤ 6) (hev : ((xs.length : Nat) : Int).fmod 2 = 0) (hx : ∀ x ∈ xs, 0 ≤ x ∧ x < 256) (hy : ∀ y ∈ ys, 0 ≤ y ∧ y < 256) : Does w 3 145 news [.ref la, .ref lb, .int c tc, .bool bl] (OutP news (runLF (wordsG bl xs ys) (evens 0 (xs.length / 2)) c).1 (runLF (wordsG bl xs ys) (evens 0 (xs.length / 2)) c).2) := by
  rw [Int.fmod_eq_emod_of_nonneg _ (by decide)] at hev
  exact words_does w news la lb vs us n k xs ys c tc bl (xs.length / 2) ha hb hi hj (by omega) (by omega) (by omega) hx hy
local macro_rules | `(tactic| walk_at "call ref") => `(tactic| (k_here; (with_reducible show wpAny _ _ (call (Value.ref 124) _) _ _ _); k_dflt (refine Does.useIB (by k_asm) (by k_asm) (by k_asm) (by k_asm) (by k_asm) (whole_does _ _ _ _ _ _ (by k_mem) (by assumption) (by first | assumption | omega | (rw [chain_len]; omega) | (rw [words_len]; omega)) (by first | assumption | exact chain_rng _ _ _ | exact words_rng _ _ _ _ _)) (by first | exact rfl | assumption) (by ktr_room) (by ktr_units) ?_); intro t9 h9 tk9 F9 N9; walk_at "mine end"))
local macro_rules | `(tactic| walk_at "call ref") => `(tactic| (k_here; (with_reducible show wpAny _ _ (call (Value.ref 145) _) _ _ _); k_dflt (refine Does.usePB (by k_asm) (by k_asm) (by k_asm) (by k_asm) (by k_asm) (words2_does _ _ _ _ _ _ _ _ _ _ _ _ _ (by k_mem) (by k_mem) (by assumption) (by assumption) (by first | assumption | omega) (by first | assumption | omega) (by assumption) (by first | assumption | (with_reducible assumption)) (by first | assumption | (with_reducible assumption))) (by first | exact rfl | assumption) (by ktr_room) (by ktr_units) ?_); intro P9 D9 us9 n9 t9 c9 h9 tk9 F9 N9 l9 m9 i9; (try simp only [LCg.Off1, and_true] at l9); (try simp only [LCg.Off1, and_true] at m9); walk_at "mine end"))
local macro_rules | `(tactic| walk_at "exec For Tuple Name cons nil") => `(tactic| (k_here; (rename Fr _ _ _ _ => lF'); (with_unfolding_all refine' For_turns lF' ?_; k_whole)))

@[irreducible] noncomputable def pw (n : Int) : Int := 256 ^ n.toNat
theorem pw_def (n : Int) : pw n = 256 ^ n.toNat := by unfold pw; rfl
theorem pw_pos (n : Int) : 0 < pw n := by rw [pw_def]; exact Int.pow_pos (by decide)
theorem pw_ne (n : Int) : pw n ≠ 0 := Int.ne_of_gt (pw_pos n)
theorem pow256 {prog : Program} {w : World} {A : Around} {E : Value → Shared → Prop} {s : Shared} {n : Int} {t u : Tok} {Q : Value → Shared → Prop} (hn : 0 ≤ n) (hn2 : n ≤ 100) (h : Q (.int (pw n) s.toks) { s with toks := s.toks + 1 }) :
    wpAny (model prog w) A (binaryOp .Pow (.int 256 t) (.int n u)) Q E s := pow_int_small hn (by omega) (by decide) (by rw [← pw_def]; exact h)
local macro_rules | `(tactic| walk_at "binaryOp Pow int int") => `(tactic| (k_here; (with_reducible show wpAny _ _ (binaryOp Operator.Pow (Value.int 256 _) (Value.int _ _)) _ _ _); (with_reducible refine pow256 ?a ?b ?_); (case a => omega); (case b => omega); (try dsimp only)))
local macro_rules | `(tactic| walk_at "binaryOp Mod int int") => `(tactic| (k_here; (with_reducible show wpAny _ _ (binaryOp Operator.Mod (Value.int _ _) (Value.int (pw _) _)) _ _ _); (with_reducible refine mod_int' (pw_ne _) ?_); (try dsimp only)))

theorem item_led {prog : Program} {w : World} {A : Around} {E : Value → Shared → Prop} {s : Shared} {h₀ : Heap} {L l : Addr} {news : Led} {vs : List Value} {ns : List Int} {n : Nat} {value slice : PySem.Expr} {k : Int} {u : Tok} {Q : Value → Shared → Prop} (N : News h₀ L s.heap news) (hm : (l, listOf vs.toArray n) ∈ news) (hi : IntsAre vs ns) (h0 : 0 ≤ k) (h1 : k < (ns.length : Nat)) (hf : ns.length < 1000)
    (h : ∀ t, Q (.int (ns.getD k.toNat 0) t) s) (hs : subscripted slice false (.ref l) (.int k u) = operate [.ref l, .int k u] (getItem (.ref l) (.int k u)) := by with_unfolding_all rfl) : wpAny (model prog w) A (subscriptTail value slice (.ref l) (.int k u)) Q E s := by
  have hlt : k.toNat < ns.length := by omega
  have e : ns[k.toNat]? = some (ns.getD k.toNat 0) := by rw [List.getD_eq_getElem?_getD, List.getElem?_eq_getElem hlt]; rfl
  obtain ⟨t, ht⟩ := hi.get k.toNat _ e
  have hl := News.isList N hm
  exact tail_any hl.typeIs PySem.F.slot_list_getitem.lookup (wpAny_getItem_list hl h0 (by omega) (by simpa using ht) (h t)) hs
local macro_rules | `(tactic| walk_at "subscriptTail") => `(tactic| (k_here; (with_reducible show wpAny _ _ (subscriptTail _ _ (Value.ref _) (Value.int _ _)) _ _ _); k_dflt (refine item_led (by k_asm) (by k_mem) (by assumption) (by omega) (by omega) (by omega) ?_ (by with_unfolding_all rfl)); intro t9; (try dsimp only)))

theorem subL_refl : ∀ l : Led, SubL l l := by
  have h : ∀ (l all : Led), (∀ p ∈ l, p ∈ all) → SubL l all := by
    intro l
    induction l with
    | nil => exact fun _ _ => trivial
    | cons p r ih => exact fun all h => ⟨h p (.head _), ih all fun q hq => h q (.tail _ hq)⟩
  exact fun l => h l l fun _ h => h
theorem led_sub {h₀ h : Heap} {L : Addr} {l : Led} (N : News h₀ L h l) : ∃ L1, News h₀ L h L1 ∧ SubL l L1 := ⟨l, N, subL_refl l⟩
theorem led_abs {h₀ h : Heap} {L : Addr} {e1 e2 e3 e4 : Addr × Obj} {news : Led} (N : News h₀ L h (e1 :: e2 :: e3 :: e4 :: news)) : ∃ L0, News h₀ L h L0 ∧ e1 ∈ L0 ∧ e2 ∈ L0 ∧ e3 ∈ L0 ∧ ∀ p ∈ news, p ∈ L0 :=
  ⟨_, N, .head _, .tail _ (.head _), .tail _ (.tail _ (.head _)), fun _ h => .tail _ (.tail _ (.tail _ (.tail _ h)))⟩
theorem led_abs4 {h₀ h : Heap} {L : Addr} {e1 e2 e3 e4 e5 : Addr × Obj} {news : Led} (N : News h₀ L h (e1 :: e2 :: e3 :: e4 :: e5 :: news)) : ∃ L0, News h₀ L h L0 ∧ e1 ∈ L0 ∧ e2 ∈ L0 ∧ e3 ∈ L0 ∧ e4 ∈ L0 ∧ e5 ∈ L0 ∧ ∀ p ∈ news, p ∈ L0 :=
  ⟨_, N, .head _, .tail _ (.head _), .tail _ (.tail _ (.head _)), .tail _ (.tail _ (.tail _ (.head _))), .tail _ (.tail _ (.tail _ (.tail _ (.head _)))), fun _ h => .tail _ (.tail _ (.tail _ (.tail _ (.tail _ h))))⟩
noncomputable def endX (bl : Bool) (xs ys : List Int) (c : Int) : Int := match bl with
  | true => wholeF xs + wholeF ys + c
  | false => wholeF xs - wholeF ys - c
noncomputable def endY (bl : Bool) (xs ys : List Int) (c : Int) : Int := match bl with
  | true => signedF (wholeF xs) (xs.length : Nat) + signedF (wholeF ys) (xs.length : Nat) + c
  | false => signedF (wholeF xs) (xs.length : Nat) - signedF (wholeF ys) (xs.length : Nat) - c
/-- the highest word, and the two highest words' sum told by the whole numbers -/
noncomputable abbrev wordAt2 (xs : List Int) (n : Nat) : Int := Builtin.bitOr (xs.getD (((n : Nat) : Int) - 2).toNat 0) (xs.getD (((n : Nat) : Int) - 1).toNat 0 * 2 ^ Int.toNat 8)
noncomputable abbrev highE (xs ys : List Int) : Int := (wholeF xs).fdiv (2 ^ (8 * (((xs.length : Nat) : Int) - 2)).toNat) + (wholeF ys).fdiv (2 ^ (8 * (((xs.length : Nat) : Int) - 2)).toNat)
/-- what the law asks of a chain's end -/
structure GoodEnd (n : Nat) (x y : Int) (R : List Int) (f : Int) : Prop where
  len : R.length ≤ 6
  rng : ∀ v ∈ R, 0 ≤ v ∧ v < 256
  whole : wholeF R = x.fmod (pw ((n : Nat) : Int))
  carry : 0 < Builtin.bitAnd f 1 ↔ ¬ (0 ≤ x ∧ x < pw ((n : Nat) : Int))
  over : (¬ (0 < Builtin.bitAnd f 128 ↔ 0 < Builtin.bitAnd f 4)) ↔ y < 0
theorem even_two {n : Nat} (h : 0 < n) (e : ((n : Nat) : Int).fmod 2 = 0) : 2 ≤ n := by
  rw [Int.fmod_eq_emod_of_nonneg _ (by decide)] at e
  omega
theorem good_no1 {n : Nat} {x y : Int} {R : List Int} {f : Int} (hG : GoodEnd n x y R f) (h : wholeF R ≠ x.fmod (pw ((n : Nat) : Int))) : False := h hG.whole
theorem good_no2 {n : Nat} {x y : Int} {R : List Int} {f : Int} (hG : GoodEnd n x y R f) (h0 : 0 ≤ x) (h : (decide (0 < Builtin.bitAnd f 1) != !decide (x < pw ((n : Nat) : Int))) = true) : False := by
  have hc := hG.carry
  by_cases a : 0 < Builtin.bitAnd f 1 <;> by_cases b : x < pw ((n : Nat) : Int) <;> simp_all
theorem good_no3 {n : Nat} {x y : Int} {R : List Int} {f : Int} (hG : GoodEnd n x y R f) (h0 : ¬ 0 ≤ x) (h : (decide (0 < Builtin.bitAnd f 1) != !decide (0 ≤ x)) = true) : False := by
  have hc := hG.carry
  by_cases a : 0 < Builtin.bitAnd f 1
  · rw [decide_eq_true a, decide_eq_false h0] at h; cases h
  · exact a (hc.mpr fun q => h0 q.1)
theorem good_no4 {n : Nat} {x y : Int} {R : List Int} {f : Int} (hG : GoodEnd n x y R f) (h : ((decide (0 < Builtin.bitAnd f 128) != decide (0 < Builtin.bitAnd f 4)) != decide (y < 0)) = true) : False := by
  have hc := hG.over
  by_cases a : 0 < Builtin.bitAnd f 128 <;> by_cases b : 0 < Builtin.bitAnd f 4 <;> by_cases d : y < 0 <;> simp_all
theorem sums_does (w : World) (news : Led) (la lb : Addr) (vs us : List Value) (n k : Nat) (xs ys : List Int) (c : Int) (tc : Tok) (ha : (la, listOf vs.toArray n) ∈ news) (hb : (lb, listOf us.toArray k) ∈ news)
    (hi : IntsAre vs xs) (hj : IntsAre us ys) (hl : xs.length = ys.length) (hcap0 : 0 < xs.length) (hcap : xs.length ≤ 6) (hcapy : ys.length ≤ 6) (hx : ∀ x ∈ xs, 0 ≤ x ∧ x < 256) (hy : ∀ y ∈ ys, 0 ≤ y ∧ y < 256) (hc0 : 0 ≤ c) (hc1 : c ≤ 1)
    (hg1 : ∀ bl, GoodEnd xs.length (endX bl xs ys c) (endY bl xs ys c) (runLF (chainG bl) (xs.zip ys) c).1 (runLF (chainG bl) (xs.zip ys) c).2)
    (hg2 : ((xs.length : Nat) : Int).fmod 2 = 0 → ∀ bl, GoodEnd xs.length (endX bl xs ys c) (endY bl xs ys c) (runLF (wordsG bl xs ys) (evens 0 (xs.length / 2)) c).1 (runLF (wordsG bl xs ys) (evens 0 (xs.length / 2)) c).2)
    (hg3 : ((xs.length : Nat) : Int).fmod 2 = 0 → add16R (wordAt2 xs xs.length) (wordAt2 ys xs.length) = (highE xs ys).fmod 65536 ∧ Builtin.bitAnd (add16F (wordAt2 xs xs.length) (wordAt2 ys xs.length) 196) 197 = 196 + (highE xs ys).fdiv 65536) : Does w 5 152 news [.ref la, .ref lb, .int c tc] (OutB news true) := by
  unfold Does
  intro loose mean mg mb dp un gd cn cs a₀ ccd cl outer A₀ base h₀ L m s Q E B F X N T hk hdp hun hret
  refine fill0 (by k_fill; exact ⟨rfl, rfl⟩) ?_
  refine wpAny_call ?_
  k_dflt cell_enter
  repeat' (first | (k_unfold; (try dsimp only)) | (k_end; wrow_close) | ((fail_if_success (with_reducible show wpAny _ _ (call (Value.type "enumerate") _) _ _ _)); walk1) | (dsimp only; (fail_if_success (with_reducible show wpAny _ _ (call (Value.type "enumerate") _) _ _ _)); walk1) | (leave1; walk_say "STEP leave1"; try dsimp only))
  rename Fr _ _ _ _ => F1
  rename News _ _ _ _ => N1
  obtain ⟨L0, NL, m1, m2, m3, mn⟩ := led_abs N1
  clear N1
  (repeat (rename (_ < _ ∧ _) => hx9; clear hx9))
  have ha0 := mn _ ha
  have hb0 := mn _ hb
  with_unfolding_all refine ktu_enum (vs := [.ref _, .ref _]) (by rfl) F1 NL m2 (by rfl) (by rfl) (by rfl) ?_
  intro I lI
  refine loop_K [Str.ofString "at", Str.ofString "told", Str.ofString "ways", Str.ofString "found", Str.ofString "flags"] ⟨m2, trivial⟩ ?turn ?done
  case turn =>
    intro a ha' u v h tk hv F'
    simp only [enumItems, List.mem_cons, List.not_mem_nil, or_false] at ha'
    have hg : ∃ (at' : Int) (T : Addr) (x y : Int) (t1 t2 : Tok) (c1 : Nat), a = .pair (fun t => .int at' t) (.ref T) ∧ (T, tupO #[.int x t1, .int y t2] c1) ∈ L0 ∧ x = endX (at' == 0) xs ys c ∧ y = endY (at' == 0) xs ys c := by
      rcases ha' with rfl | rfl
      · exact ⟨0, _, _, _, _, _, _, rfl, m3, rfl, rfl⟩
      · exact ⟨1, _, _, _, _, _, _, rfl, m1, rfl, rfl⟩
    clear ha' m1 m2 m3
    obtain ⟨at', T, x, y, t1, t2, c1, rfl, mT, ex, ey⟩ := hg
    have hG1 := hg1 (at' == 0)
    have hG2 := fun e => hg2 e (at' == 0)
    rw [← ex, ← ey] at hG1 hG2
    obtain ⟨Tp, t', rfl, hT⟩ := hv
    dsimp only at hT
    ktu_objs
    (try k_fold)
    repeat' (first | (k_unfold; (try dsimp only)) | (k_end; wrow_close) | ((fail_if_success (with_reducible show wpAny _ _ (call (Value.type "enumerate") _) _ _ _)); (fail_if_success (with_reducible show wpAny _ _ (pyIter _) _ _ _)); walk1) | (dsimp only; (fail_if_success (with_reducible show wpAny _ _ (call (Value.type "enumerate") _) _ _ _)); (fail_if_success (with_reducible show wpAny _ _ (pyIter _) _ _ _)); walk1) | (leave1; walk_say "STEP leave1"; try dsimp only))
    · rename Fr _ _ _ _ => F3
      rename News _ _ _ _ => N3
      obtain ⟨L1, N4, w0, w1, p2, d2, w2, p1, d1, q1, q2, hs0⟩ := led_sub N3
      clear N3
      (repeat (rename (_ < _ ∧ _) => hx9; clear hx9))
      (repeat (rename (_ ≠ _ ∧ _) => hx9; clear hx9))
      have mT1 := hs0.mem _ mT
      with_unfolding_all refine iter_listTurns (vs := [.ref _, .ref _]) (by rfl) F3 N4 w0 (by rfl) (by rfl) ?_
      intro I2 lI2
      refine loop_K [Str.ofString "found", Str.ofString "flags"] ⟨w0, trivial⟩ ?turn2 ?done2
      case turn2 =>
        intro a2 ha2 u2 v2 h2 tk2 hv2 F2
        simp only [List.map_cons, List.map_nil, List.mem_cons, List.not_mem_nil, or_false] at ha2
        have hg2 : ∃ P D us n1 R f t c, a2 = .val (.ref P) ∧ (P, tupO #[.ref D, .int f t] c) ∈ L1 ∧ (D, listOf us.toArray n1) ∈ L1 ∧ IntsAre us R ∧ GoodEnd xs.length x y R f := by
          rcases ha2 with rfl | rfl
          · exact ⟨_, _, _, _, _, _, _, _, rfl, p1, d1, by assumption, hG1⟩
          · exact ⟨_, _, _, _, _, _, _, _, rfl, p2, d2, by assumption, hG2 (by assumption)⟩
        clear ha2 w0
        obtain ⟨P, D, us2, n1, R, f, t3, c3, rfl, mP, mD, hR, hG⟩ := hg2
        have hlen := hG.len
        have hrng := hG.rng
        have hw := hG.whole
        cases hv2
        ktu_objs
        clear_value *
        (try k_fold)
        repeat' (first | (k_unfold; (try dsimp only)) | (k_end; wrow_close) | ((fail_if_success (with_reducible show wpAny _ _ (call X) _ _ _)); walk1) | (dsimp only; (fail_if_success (with_reducible show wpAny _ _ (call X) _ _ _)); walk1) | (leave1; walk_say "STEP leave1"; try dsimp only))
        all_goals (first
          | (exfalso; first | exact good_no1 hG (by assumption) | exact good_no2 hG (by assumption) (by assumption) | exact good_no3 hG (by assumption) (by assumption) | exact good_no4 hG (by assumption))
          | skip)
        all_goals
          rename Fr _ _ _ _ => FE
          rename News _ _ _ _ => NE
          refine' unr_end (I := I2) FE NE _ ?hI ?sub lI2 ?hi ⟨rfl, ?hz⟩
          case hI => k_allIn
          case sub => repeat (first | exact fun p hp => by repeat (first | exact hp | refine List.Mem.tail _ ?_) | (refine List.forall_mem_cons.mpr ⟨by k_memK, ?_⟩))
          case hi => repeat (first | exact List.forall_mem_nil _ | (refine List.forall_mem_cons.mpr ⟨by first | exact Nat.le_add_right _ _ | exact Nat.le_refl _, ?_⟩))
          case hz =>
            intro z h2
            have h3 := h2
            simp only [List.contains_cons, List.contains_nil, Bool.or_eq_false_iff, beq_eq_false_iff_ne, ne_eq, Bool.or_false] at h3
            simp only [h3, h2, if_false, Bool.false_eq_true]
      case done2 =>
        intro u2 h2 tk2 F2 N2
        dsimp only
        (try k_fold)
        k_steps
        rename Fr _ _ _ _ => FE
        refine unr_end (I := I) FE N2 L0 (List.forall_mem_cons.mpr ⟨q1, List.forall_mem_cons.mpr ⟨q2, List.forall_mem_nil _⟩⟩) hs0.mem lI ?hi ⟨rfl, ?hz⟩
        case hi => repeat (first | exact List.forall_mem_nil _ | (refine List.forall_mem_cons.mpr ⟨by first | exact Nat.le_add_right _ _ | exact Nat.le_refl _, ?_⟩))
        case hz =>
          intro z h2
          have h3 := h2
          simp only [List.contains_cons, List.contains_nil, Bool.or_eq_false_iff, beq_eq_false_iff_ne, ne_eq, Bool.or_false] at h3
          have e1 := beq_eq_false_iff_ne.mpr h3.2.2.2.1
          have e2 := beq_eq_false_iff_ne.mpr h3.2.2.2.2
          simp only [h3, h2, if_false, Bool.false_eq_true, List.contains_cons, List.contains_nil, Bool.or_false, e1, e2]
    · rename Fr _ _ _ _ => F3
      rename News _ _ _ _ => N3
      obtain ⟨L1, N4, w0, w1, w2, p1, d1, q1, q2, hs0⟩ := led_sub N3
      clear N3
      (repeat (rename (_ < _ ∧ _) => hx9; clear hx9))
      (repeat (rename (_ ≠ _ ∧ _) => hx9; clear hx9))
      have mT1 := hs0.mem _ mT
      with_unfolding_all refine iter_listTurns (vs := [.ref _]) (by rfl) F3 N4 w0 (by rfl) (by rfl) ?_
      intro I2 lI2
      refine loop_K [Str.ofString "found", Str.ofString "flags"] ⟨w0, trivial⟩ ?turn2 ?done2
      case turn2 =>
        intro a2 ha2 u2 v2 h2 tk2 hv2 F2
        simp only [List.map_cons, List.map_nil, List.mem_cons, List.not_mem_nil, or_false] at ha2
        have hg2 : ∃ P D us n1 R f t c, a2 = .val (.ref P) ∧ (P, tupO #[.ref D, .int f t] c) ∈ L1 ∧ (D, listOf us.toArray n1) ∈ L1 ∧ IntsAre us R ∧ GoodEnd xs.length x y R f := by
          subst ha2
          exact ⟨_, _, _, _, _, _, _, _, rfl, p1, d1, by assumption, hG1⟩
        clear ha2 w0
        obtain ⟨P, D, us2, n1, R, f, t3, c3, rfl, mP, mD, hR, hG⟩ := hg2
        have hlen := hG.len
        have hrng := hG.rng
        have hw := hG.whole
        cases hv2
        ktu_objs
        clear_value *
        (try k_fold)
        repeat' (first | (k_unfold; (try dsimp only)) | (k_end; wrow_close) | ((fail_if_success (with_reducible show wpAny _ _ (call X) _ _ _)); walk1) | (dsimp only; (fail_if_success (with_reducible show wpAny _ _ (call X) _ _ _)); walk1) | (leave1; walk_say "STEP leave1"; try dsimp only))
        all_goals (first
          | (exfalso; first | exact good_no1 hG (by assumption) | exact good_no2 hG (by assumption) (by assumption) | exact good_no3 hG (by assumption) (by assumption) | exact good_no4 hG (by assumption))
          | skip)
        all_goals
          rename Fr _ _ _ _ => FE
          rename News _ _ _ _ => NE
          refine' unr_end (I := I2) FE NE _ ?hI ?sub lI2 ?hi ⟨rfl, ?hz⟩
          case hI => k_allIn
          case sub => repeat (first | exact fun p hp => by repeat (first | exact hp | refine List.Mem.tail _ ?_) | (refine List.forall_mem_cons.mpr ⟨by k_memK, ?_⟩))
          case hi => repeat (first | exact List.forall_mem_nil _ | (refine List.forall_mem_cons.mpr ⟨by first | exact Nat.le_add_right _ _ | exact Nat.le_refl _, ?_⟩))
          case hz =>
            intro z h2
            have h3 := h2
            simp only [List.contains_cons, List.contains_nil, Bool.or_eq_false_iff, beq_eq_false_iff_ne, ne_eq, Bool.or_false] at h3
            simp only [h3, h2, if_false, Bool.false_eq_true]
      case done2 =>
        intro u2 h2 tk2 F2 N2
        dsimp only
        (try k_fold)
        k_steps
        rename Fr _ _ _ _ => FE
        refine unr_end (I := I) FE N2 L0 (List.forall_mem_cons.mpr ⟨q1, List.forall_mem_cons.mpr ⟨q2, List.forall_mem_nil _⟩⟩) hs0.mem lI ?hi ⟨rfl, ?hz⟩
        case hi => repeat (first | exact List.forall_mem_nil _ | (refine List.forall_mem_cons.mpr ⟨by first | exact Nat.le_add_right _ _ | exact Nat.le_refl _, ?_⟩))
        case hz =>
          intro z h2
          have h3 := h2
          simp only [List.contains_cons, List.contains_nil, Bool.or_eq_false_iff, beq_eq_false_iff_ne, ne_eq, Bool.or_false] at h3
          have e1 := beq_eq_false_iff_ne.mpr h3.2.2.2.1
          have e2 := beq_eq_false_iff_ne.mpr h3.2.2.2.2
          simp only [h3, h2, if_false, Bool.false_eq_true, List.contains_cons, List.contains_nil, Bool.or_false, e1, e2]
  case done =>
    intro u h tk F' N'
    dsimp only
    (try k_fold)
    obtain ⟨hx2, hx3⟩ := getD_range hx (((xs.length : Nat) : Int) - 1).toNat
    obtain ⟨hy2, hy3⟩ := getD_range hy (((xs.length : Nat) : Int) - 1).toNat
    repeat' (first | (k_unfold; (try dsimp only)) | (k_end; wrow_close) | ((fail_if_success (with_reducible show wpAny _ _ (subscriptTail _ _ _ _) _ _ _)); walk1) | (dsimp only; (fail_if_success (with_reducible show wpAny _ _ (subscriptTail _ _ _ _) _ _ _)); walk1) | (leave1; walk_say "STEP leave1"; try dsimp only))
    · have h2 := even_two hcap0 (by assumption)
      repeat' (first | (k_unfold; (try dsimp only)) | (k_end; wrow_close) | ((fail_if_success (with_reducible show wpAny _ _ (call X) _ _ _)); walk1) | (dsimp only; (fail_if_success (with_reducible show wpAny _ _ (call X) _ _ _)); walk1) | (leave1; walk_say "STEP leave1"; try dsimp only))
      all_goals (refine does_bool hret (by k_asm) (by k_asm) (by intro p hp; have hq := mn p hp; repeat (first | exact hq | refine List.Mem.tail _ ?_)) ?_)
      all_goals (first | exact beq_iff_eq.mpr (hg3 (by assumption)).1 | exact beq_iff_eq.mpr (hg3 (by assumption)).2)
    · refine does_bool hret (by k_asm) (by k_asm) mn rfl
theorem pw_nat (n : Nat) : pw ((n : Nat) : Int) = 256 ^ n := by rw [pw_def, Int.toNat_natCast]
theorem fmod_of {x r p k : Int} (hp : 0 < p) (h0 : 0 ≤ r) (h1 : r < p) (h : x = r + p * k) : x.fmod p = r := by
  rw [Int.fmod_eq_emod_of_nonneg _ (Int.le_of_lt hp), h, Int.add_mul_emod_self_left, Int.emod_eq_of_lt h0 h1]
theorem fdiv_of {x r p k : Int} (hp : 0 < p) (h0 : 0 ≤ r) (h1 : r < p) (h : x = r + p * k) : x.fdiv p = k := by
  rw [Int.fdiv_eq_ediv_of_nonneg _ (Int.le_of_lt hp), h, Int.add_mul_ediv_left _ _ (Int.ne_of_gt hp), Int.ediv_eq_zero_of_lt h0 h1, Int.zero_add]
theorem good_add {n : Nat} {x y : Int} {R : List Int} {f : Int} (hn : n ≤ 6) (hlen : R.length = n) (hR : Octs R) (h : x = val R + 256 ^ n * Builtin.bitAnd f 1)
    (hv : (¬ (0 < Builtin.bitAnd f 128 ↔ 0 < Builtin.bitAnd f 4)) ↔ y < 0) : GoodEnd n x y R f := by
  have hp := pow256_pos n
  have hr := val_range R hR
  rw [hlen] at hr
  refine ⟨by omega, hR, ?_, ?_, hv⟩
  · rw [whole_val, pw_nat]
    exact (fmod_of hp hr.1 hr.2 h).symm
  · rw [pw_nat]
    rcases bit01 f with q | q <;> rw [q] at h ⊢ <;> omega
theorem good_sub {n : Nat} {x y : Int} {R : List Int} {f : Int} (hn : n ≤ 6) (hlen : R.length = n) (hR : Octs R) (h : x = val R - 256 ^ n * Builtin.bitAnd f 1)
    (hv : (¬ (0 < Builtin.bitAnd f 128 ↔ 0 < Builtin.bitAnd f 4)) ↔ y < 0) : GoodEnd n x y R f := by
  have hp := pow256_pos n
  have hr := val_range R hR
  rw [hlen] at hr
  refine ⟨by omega, hR, ?_, ?_, hv⟩
  · rw [whole_val, pw_nat]
    refine (fmod_of (k := - Builtin.bitAnd f 1) hp hr.1 hr.2 ?_).symm
    rw [h, Int.mul_neg]; omega
  · rw [pw_nat]
    rcases bit01 f with q | q <;> rw [q] at h ⊢ <;> omega
theorem bit_of {c : Int} (h0 : 0 ≤ c) (h1 : c ≤ 1) : Builtin.bitAnd c 1 = c := by rw [bitAnd_m1]; omega
theorem endY_eq (bl : Bool) (xs ys : List Int) (c : Int) (hl : xs.length = ys.length) (h0 : 0 < xs.length) (hx : Octs xs) (hy : Octs ys) : endY bl xs ys c = match bl with
  | true => sgn xs + sgn ys + c
  | false => sgn xs - sgn ys - c := by
  have nx : xs ≠ [] := by intro q; rw [q] at h0; cases h0
  have ny : ys ≠ [] := by intro q; rw [q] at hl; rw [hl] at h0; cases h0
  have e1 := signed_sgn xs nx hx
  have e2 := signed_sgn ys ny hy
  rw [← hl] at e2
  cases bl <;> simp only [endY, whole_val, e1, e2]
theorem sums_g1 (xs ys : List Int) (c : Int) (hl : xs.length = ys.length) (hcap0 : 0 < xs.length) (hcap : xs.length ≤ 6) (hx : Octs xs) (hy : Octs ys) (hc0 : 0 ≤ c) (hc1 : c ≤ 1) (bl : Bool) :
    GoodEnd xs.length (endX bl xs ys c) (endY bl xs ys c) (runLF (chainG bl) (xs.zip ys) c).1 (runLF (chainG bl) (xs.zip ys) c).2 := by
  have nx : xs ≠ [] := by intro q; rw [q] at hcap0; cases hcap0
  rw [endY_eq bl xs ys c hl hcap0 hx hy]
  cases bl
  · obtain ⟨a1, a2, a3, a4⟩ := chainF xs ys c hl hx hy
    rw [bit_of hc0 hc1] at a3 a4
    refine good_sub hcap a1 a2 ?_ (a4 nx)
    simp only [endX, whole_val]
    exact a3
  · obtain ⟨a1, a2, a3, a4⟩ := chainT xs ys c hl hx hy
    rw [bit_of hc0 hc1] at a3 a4
    refine good_add hcap a1 a2 ?_ (a4 nx)
    simp only [endX, whole_val]
    exact a3
theorem pow_even (q : Nat) : (65536 : Int) ^ q = 256 ^ (2 * q) := by rw [Int.pow_mul]; rfl
theorem sums_g2 (xs ys : List Int) (c : Int) (hl : xs.length = ys.length) (hcap0 : 0 < xs.length) (hcap : xs.length ≤ 6) (hx : Octs xs) (hy : Octs ys) (hc0 : 0 ≤ c) (hc1 : c ≤ 1) (hev : ((xs.length : Nat) : Int).fmod 2 = 0) (bl : Bool) :
    GoodEnd xs.length (endX bl xs ys c) (endY bl xs ys c) (runLF (wordsG bl xs ys) (evens 0 (xs.length / 2)) c).1 (runLF (wordsG bl xs ys) (evens 0 (xs.length / 2)) c).2 := by
  rw [endY_eq bl xs ys c hl hcap0 hx hy]
  rw [Int.fmod_eq_emod_of_nonneg _ (by decide)] at hev
  obtain ⟨q, hq⟩ : ∃ q, xs.length / 2 = q := ⟨_, rfl⟩
  have e : xs.length = 2 * q := by omega
  rw [hq]
  have hq0 : 0 < q := by omega
  cases bl
  · obtain ⟨a1, a2, a3, a4⟩ := wordsF q xs ys c e (by omega) hx hy
    rw [bit_of hc0 hc1] at a3 a4
    rw [pow_even, ← e] at a3
    refine good_sub hcap (a1.trans e.symm) a2 ?_ (a4 hq0)
    simp only [endX, whole_val]
    exact a3
  · obtain ⟨a1, a2, a3, a4⟩ := wordsT q xs ys c e (by omega) hx hy
    rw [bit_of hc0 hc1] at a3 a4
    rw [pow_even, ← e] at a3
    refine good_add hcap (a1.trans e.symm) a2 ?_ (a4 hq0)
    simp only [endX, whole_val]
    exact a3
/-- the number is what stands below its highest word, and the word -/
theorem val_top : ∀ (k : Nat) (xs : List Int), xs.length = k + 2 → Octs xs → ∃ lo, 0 ≤ lo ∧ lo < 256 ^ k ∧ val xs = lo + 256 ^ k * (xs.getD k 0 + 256 * xs.getD (k + 1) 0)
  | 0, [a, b], _, _ => ⟨0, by simp, by simp, by simp [val]⟩
  | k + 1, a :: r, hl, hx => by
    obtain ⟨ha, hr⟩ := octs_cons.mp hx
    obtain ⟨lo, h0, h1, h2⟩ := val_top k r (by simpa using hl) hr
    refine ⟨a + 256 * lo, by omega, ?_, ?_⟩
    · rw [Int.pow_succ]; omega
    · rw [List.getD_cons_succ, List.getD_cons_succ, show val (a :: r) = a + 256 * val r from rfl, h2, Int.pow_succ, Int.mul_comm _ 256, Int.mul_assoc]
      omega
theorem high_word (xs : List Int) (k : Nat) (hl : xs.length = k + 2) (hx : Octs xs) : (wholeF xs).fdiv (2 ^ (8 * (((k + 2 : Nat) : Int) - 2)).toNat) = xs.getD k 0 + 256 * xs.getD (k + 1) 0 := by
  obtain ⟨lo, h0, h1, h2⟩ := val_top k xs hl hx
  have e : (2 : Int) ^ (8 * (((k + 2 : Nat) : Int) - 2)).toNat = 256 ^ k := by
    rw [show (8 * (((k + 2 : Nat) : Int) - 2)).toNat = 8 * k by omega, Int.pow_mul]; rfl
  rw [e, whole_val]
  exact fdiv_of (pow256_pos k) h0 h1 h2
theorem sums_g3 (xs ys : List Int) (hl : xs.length = ys.length) (hcap0 : 0 < xs.length) (hx : Octs xs) (hy : Octs ys) (hev : ((xs.length : Nat) : Int).fmod 2 = 0) :
    add16R (wordAt2 xs xs.length) (wordAt2 ys xs.length) = (highE xs ys).fmod 65536 ∧ Builtin.bitAnd (add16F (wordAt2 xs xs.length) (wordAt2 ys xs.length) 196) 197 = 196 + (highE xs ys).fdiv 65536 := by
  rw [Int.fmod_eq_emod_of_nonneg _ (by decide)] at hev
  obtain ⟨k, hk⟩ : ∃ k, xs.length = k + 2 := ⟨xs.length - 2, by omega⟩
  have hk2 : ys.length = k + 2 := by omega
  have w : ∀ zs : List Int, zs.length = k + 2 → Octs zs → wordAt2 zs xs.length = zs.getD k 0 + 256 * zs.getD (k + 1) 0 ∧ 0 ≤ zs.getD k 0 + 256 * zs.getD (k + 1) 0 ∧ zs.getD k 0 + 256 * zs.getD (k + 1) 0 < 65536 := by
    intro zs hz oz
    have g1 := getD_range oz k
    have g2 := getD_range oz (k + 1)
    refine ⟨?_, by omega, by omega⟩
    show Builtin.bitOr (zs.getD (((xs.length : Nat) : Int) - 2).toNat 0) (zs.getD (((xs.length : Nat) : Int) - 1).toNat 0 * 2 ^ Int.toNat 8) = _
    rw [hk, show (((k + 2 : Nat) : Int) - 2).toNat = k by omega, show (((k + 2 : Nat) : Int) - 1).toNat = k + 1 by omega]
    exact or_disj8 _ _ g1.1 g1.2
  obtain ⟨wx, x0, x1⟩ := w xs hk hx
  obtain ⟨wy, y0, y1⟩ := w ys hk2 hy
  have hE : highE xs ys = (xs.getD k 0 + 256 * xs.getD (k + 1) 0) + (ys.getD k 0 + 256 * ys.getD (k + 1) 0) := by
    show (wholeF xs).fdiv (2 ^ (8 * (((xs.length : Nat) : Int) - 2)).toNat) + (wholeF ys).fdiv (2 ^ (8 * (((xs.length : Nat) : Int) - 2)).toNat) = _
    rw [hk, high_word xs k hk hx, high_word ys k hk2 hy]
  rw [wx, wy, hE, Int.fmod_eq_emod_of_nonneg _ (by decide), Int.fdiv_eq_ediv_of_nonneg _ (by decide)]
  exact ⟨bitAnd_m16 _, add16_flags x0 x1 y0 y1⟩

/- part 10 -/

theorem pw_py {n : Int} (h : n ≤ 100) : (pw n).natAbs.log2 < 9000 := by
  rw [pw_def]
  have e : ((256 : Int) ^ n.toNat).natAbs = 2 ^ (8 * n.toNat) := by
    rw [Int.natAbs_pow, Nat.pow_mul]; rfl
  rw [e]
  exact (Nat.log2_lt (Nat.ne_of_gt (Nat.two_pow_pos _))).mpr (Nat.pow_lt_pow_right (by decide) (by omega))
local macro_rules | `(tactic| walk_at "binaryOp FloorDiv int int") => `(tactic| (k_here; (with_reducible show wpAny _ _ (binaryOp Operator.FloorDiv (Value.int _ _) (Value.int (pw _) _)) _ _ _); (with_reducible refine floordiv_int (pw_ne _) ?_ (Or.inl (PyProof.noPylong_of_log2 (pw_py ?kbp)))); (case kbp => omega); (try dsimp only)))

section
variable {prog : Program} {w : World} {A : Around} {E : Value → Shared → Prop} {s : Shared} {h₀ : Heap} {L D D' P P' : Addr} {news : Led} {us us' : List Value} {xs xs' : List Int} {n n' c c' : Nat} {x x' : Int} {t t' : Tok} {Q : Value → Shared → Prop}
theorem lists_ne (N : News h₀ L s.heap news) (hD : (D, listOf us.toArray n) ∈ news) (hD' : (D', listOf us'.toArray n') ∈ news) (hi : IntsAre us xs) (hi' : IntsAre us' xs') (hu : A.units + 64 < cLine) (h : Q (.bool (!decide (xs = xs'))) s) :
    wpAny (model prog w) A (compareOp .NotEq (.ref D) (.ref D')) Q E s := ke_ne_ints (News.isList N hD) (News.isList N hD') hi hi' hu h
theorem pair_shaped (xs : List Int) (x : Int) : SeqAt.shaped (.tuple [.list (xs.map PyData.int), .int x]) = true := by
  simp [SeqAt.shaped, PyData.canLay0, PyData.canLayAll0, PyData.depth, PyData.depthAll, ke_canLayAll0, ke_depthAll]
theorem pairs_ne (N : News h₀ L s.heap news) (hP : (P, tupO #[.ref D, .int x t] c) ∈ news) (hP' : (P', tupO #[.ref D', .int x' t'] c') ∈ news) (hD : (D, listOf us.toArray n) ∈ news) (hD' : (D', listOf us'.toArray n') ∈ news) (hi : IntsAre us xs) (hi' : IntsAre us' xs') (hu : A.units + 64 < cLine)
    (h : Q (.bool (!(decide (xs = xs') && decide (x = x')))) s) : wpAny (model prog w) A (compareOp .NotEq (.ref P) (.ref P')) Q E s := by
  refine ne_dataH (reads_tuple_at (N.get hP) rfl rfl (ReadsAll.cons (reads_newData (News.isList N hD) (ke_carried hi)) (ReadsAll.cons (Reads.int _ _) ReadsAll.nil)))
    (reads_tuple_at (N.get hP') rfl rfl (ReadsAll.cons (reads_newData (News.isList N hD') (ke_carried hi')) (ReadsAll.cons (Reads.int _ _) ReadsAll.nil))) (pair_shaped _ _) (pair_shaped _ _) hu ?_
  simp only [PyData.eqv, PyData.eqvAll, ked_eqvAll, Bool.and_true]
  exact h
end
local macro_rules | `(tactic| walk_at "compareOp NotEq ref ref") => `(tactic| (k_here; (with_reducible show wpAny _ _ (compareOp CmpOp.NotEq (Value.ref _) (Value.ref _)) _ _ _); k_dflt (first  | (refine lists_ne (by k_asm) (by k_mem) (by k_mem) (by assumption) (by assumption) (by ktr_units) ?_)  | (refine pairs_ne (by k_asm) (by k_mem) (by k_mem) (by k_mem) (by k_mem) (by assumption) (by assumption) (by ktr_units) ?_)); (try dsimp only)))

theorem rev_led {prog : Program} {w : World} {A : Around} {E : Value → Shared → Prop} {s : Shared} {h₀ : Heap} {L l : Addr} {m : Str → Option Value} {news : Led} {vs : List Value} {ns : List Int} {n : Nat} {value slice : PySem.Expr} {vk : Value} {ops : List Value} {Q : Value → Shared → Prop}
    (F : Fr h₀ L s.heap m) (N : News h₀ L s.heap news) (hm : (l, listOf vs.toArray n) ∈ news) (pk : IsPart vk (some (-1))) (hi : IntsAre vs ns) (hlen : ns.length ≤ 1000)
    (h : ∀ D ws h', Fr h₀ L h' m → News h₀ L h' ((D, listOf (List.toArray ws) 0) :: news) → (∀ p ∈ news, p.1 < D) → IntsAre ws ns.reverse → Q (.ref D) { s with heap := h' })
    (hs : subscripted slice false (.ref l) (.ref s.heap.objs.size) = operate ops (getItem (.ref l) (.ref s.heap.objs.size))) (ht : ∀ r, letTemporaryGo value (.ref l) r = pure ()) :
    wpAny (model prog w) A (subscriptTail value slice (.ref l) (.ref s.heap.objs.size)) Q E { s with heap := s.heap.push { cls := .type "slice", data := .fields #[.none, .none, vk] } } :=
  krv_ints F N (News.isList N hm) pk hi (fun D ws h' F' N' l1 hI _ => h D ws h' F' N' l1 hI) hs ht (by rw [sizeLine_eq, List.size_toArray, hi.length]; omega)
local macro_rules | `(tactic| walk_at "subscriptTail Name Slice ref ref") => `(tactic| (k_here; (with_reducible show wpAny _ _ (subscriptTail _ (PySem.Expr.Slice none none (some _) _) (Value.ref _) (Value.ref _)) _ _ _); k_dflt (refine rev_led (by k_asm) (by k_asm) (by k_mem) (by exact IsPart.int _ _) (by assumption) (by first | assumption | omega) ?_ (by with_unfolding_all rfl) (by kmk_pure)); intro D' ws' h' F' N' l1 hI'; (try k_lt l1); (try dsimp only); (try k_sweep)))

/-- what the law asks of the turns to the right -/
structure TurnR (xs : List Int) (c first due : Int) : Prop where
  kind : Kind first
  told : (runLF (turnG first 3) (enumFrom 0 xs.reverse) c).1.reverse = toldF due ((xs.length : Nat) : Int)
  out : Builtin.bitAnd (runLF (turnG first 3) (enumFrom 0 xs.reverse) c).2 1 = (wholeF xs).fmod 2
theorem and_no {A B : Prop} [Decidable A] [Decidable B] (h : (decide A && decide B) = false) (a : A) (b : B) : False := by
  rw [decide_eq_true a, decide_eq_true b] at h; cases h
structure TurnL (xs : List Int) (c first due : Int) : Prop where
  told : (runLF (turnG first 2) (enumFrom 0 xs) c).1 = toldF (due.fmod (pw ((xs.length : Nat) : Int))) ((xs.length : Nat) : Int)
  out : Builtin.bitAnd (runLF (turnG first 2) (enumFrom 0 xs) c).2 1 = (wholeF xs * 2).fdiv (pw ((xs.length : Nat) : Int))
theorem turns_does (w : World) (news : Led) (la : Addr) (vs : List Value) (n : Nat) (xs : List Int) (c : Int) (tc : Tok) (ha : (la, listOf vs.toArray n) ∈ news)
    (hi : IntsAre vs xs) (hcap0 : 0 < xs.length) (hcap : xs.length ≤ 6) (hx : ∀ x ∈ xs, 0 ≤ x ∧ x < 256) (hc0 : 0 ≤ c) (hc1 : c ≤ 1)
    (ht1 : TurnL xs c 2 (wholeF xs * 2 + c)) (ht2 : TurnL xs 1 4 (wholeF xs * 2))
    (ht3 : TurnR xs c 3 ((wholeF xs + c * pw ((xs.length : Nat) : Int)).fdiv 2)) (ht5 : TurnR xs c 5 (((signedF (wholeF xs) ((xs.length : Nat) : Int)).fdiv 2).fmod (pw ((xs.length : Nat) : Int)))) (ht7 : TurnR xs c 7 ((wholeF xs).fdiv 2)) : Does w 14 166 news [.ref la, .int c tc] (OutB news true) := by
  have hrl : xs.reverse.length ≤ 6 := by rw [List.length_reverse]; exact hcap
  have hrr : ∀ x ∈ xs.reverse, 0 ≤ x ∧ x < 256 := fun x h => hx x (List.mem_reverse.mp h)
  unfold Does
  intro loose mean mg mb dp un gd cn cs a₀ ccd cl outer A₀ base h₀ L m s Q E B F X N T hk hdp hun hret
  refine fill0 (by k_fill; exact ⟨rfl, rfl⟩) ?_
  refine wpAny_call ?_
  k_dflt cell_enter
  repeat' (first | (k_unfold; (try dsimp only)) | (k_end; wrow_close) | ((fail_if_success (with_reducible show wpAny _ _ (pyIter _) _ _ _)); walk1) | (dsimp only; (fail_if_success (with_reducible show wpAny _ _ (pyIter _) _ _ _)); walk1) | (leave1; walk_say "STEP leave1"; try dsimp only))
  · rename Fr _ _ _ _ => F1
    rename News _ _ _ _ => N1
    obtain ⟨L1, NL, w0, t7, t5, t3, w1, w2, w3, w4, w5, w6, w7, w8, w9, w10, hs0⟩ := led_sub N1
    clear N1 w1 w2 w3 w4 w5 w6 w7 w8 w9 w10
    (repeat (rename (_ < _ ∧ _) => hx9; clear hx9))
    (repeat (rename (_ ≠ _ ∧ _) => hx9; clear hx9))
    have ha0 := hs0.mem _ ha
    with_unfolding_all refine iter_tupTurns (vs := [.ref _, .ref _, .ref _]) (by rfl) F1 NL w0 (by rfl) (by rfl) ?_
    intro I lI
    refine loop_K [Str.ofString "first", Str.ofString "due", Str.ofString "found", Str.ofString "out"] ⟨w0, trivial⟩ ?turn ?done
    case turn =>
      intro a2 ha2 u v h tk hv F'
      simp only [List.map_cons, List.map_nil, List.mem_cons, List.not_mem_nil, or_false] at ha2
      have hg : ∃ T first due t1 t2 c1, a2 = .val (.ref T) ∧ (T, tupO #[.int first t1, .int due t2] c1) ∈ L1 ∧ TurnR xs c first due := by
        rcases ha2 with rfl | rfl | rfl
        · exact ⟨_, _, _, _, _, _, rfl, t3, ht3⟩
        · exact ⟨_, _, _, _, _, _, rfl, t5, ht5⟩
        · exact ⟨_, _, _, _, _, _, rfl, t7, ht7⟩
      clear ha2 w0 t3 t5 t7
      obtain ⟨T, first, due, t1, t2, c1, rfl, mT, hT⟩ := hg
      have hkind := hT.kind
      have hlen3 : (runLF (turnG first 3) (enumFrom 0 xs.reverse) c).1.length ≤ 1000 := by
        rw [runLF_length _ 1 (fun _ _ => rfl), enumFrom_length]
        omega
      cases hv
      ktu_objs
      clear_value *
      (try k_fold)
      repeat' (first | (k_unfold; (try dsimp only)) | (k_end; wrow_close) | ((fail_if_success (with_reducible show wpAny _ _ (call X) _ _ _)); walk1) | (dsimp only; (fail_if_success (with_reducible show wpAny _ _ (call X) _ _ _)); walk1) | (leave1; walk_say "STEP leave1"; try dsimp only))
      all_goals (first
        | (exfalso; first | exact absurd hT.told (by assumption) | exact absurd hT.out (by assumption))
        | skip)
      all_goals
        rename Fr _ _ _ _ => FE
        rename News _ _ _ _ => NE
        refine' unr_end (I := I) FE NE _ ?hI ?sub lI ?hi ⟨rfl, ?hz⟩
        case hI => k_allIn
        case sub => repeat (first | exact fun p hp => by repeat (first | exact hp | refine List.Mem.tail _ ?_) | (refine List.forall_mem_cons.mpr ⟨by k_memK, ?_⟩))
        case hi => repeat (first | exact List.forall_mem_nil _ | (refine List.forall_mem_cons.mpr ⟨by first | exact Nat.le_add_right _ _ | exact Nat.le_refl _, ?_⟩))
        case hz =>
          intro z h2
          have h3 := h2
          simp only [List.contains_cons, List.contains_nil, Bool.or_eq_false_iff, beq_eq_false_iff_ne, ne_eq, Bool.or_false] at h3
          simp only [h3, h2, if_false, Bool.false_eq_true]
    case done =>
      intro u h tk F' N'
      dsimp only
      (try k_fold)
      k_steps
      exact does_bool hret (by k_asm) (by k_asm) hs0.mem rfl
  all_goals (exfalso; first | exact and_no (by assumption) ht1.told ht1.out | exact and_no (by assumption) ht2.told ht2.out)
theorem parity0 (v : Int) : tb (parityF v) 0 ↔ False := by
  unfold parityF
  dsimp only
  rw [tb_ite, tb0, lit 4 0 (P := False) rfl]
  simp
theorem fdiv2 (x : Int) : x.fdiv (2 ^ Int.toNat 1) = x / 2 := Int.fdiv_eq_ediv_of_nonneg _ (by decide)
theorem fdiv128 (x : Int) : x.fdiv (2 ^ Int.toNat 7) = x / 128 := Int.fdiv_eq_ediv_of_nonneg _ (by decide)
theorem tb_01 {c : Int} (h : c = 0 ∨ c = 1) : tb c 0 ↔ c = 1 := by rw [tb_zero]; omega
theorem rot_out {k v f : Int} (h0 : 0 ≤ v) (h1 : v < 256) : Builtin.bitAnd (rotF k v f) 1 = turnO k v := by
  have ho : turnO k v = 0 ∨ turnO k v = 1 := by
    unfold turnO
    split
    · rw [fdiv128]; omega
    · exact bit01 v
  have hb : tb (rotF k v f) 0 ↔ turnO k v = 1 := by
    unfold rotF
    rw [tb_or, tb_or, szyx0, parity0, tb_01 ho]
    simp
  rcases ho with e | e
  · rw [e]; exact (and1' _).mpr fun q => by rw [hb, e] at q; cases q
  · rw [e]; exact (and1 _).mpr (hb.mpr e)
theorem turn2 (v f : Int) : turnR 2 v f = (2 * v) % 256 + Builtin.bitAnd f 1 := by
  unfold turnR
  rw [if_pos rfl, bitAnd_m8, show v * 2 ^ Int.toNat 1 = 2 * v by rw [show (2 : Int) ^ Int.toNat 1 = 2 from rfl]; omega]
  have hb := bit01 f
  have e : 2 * v % 256 = (2 * v % 256 / 2) * 2 ^ 1 := by rw [show (2 : Int) ^ 1 = 2 from rfl]; omega
  rw [bitOr_comm, e, or_disj 1 _ _ (by omega) (by rw [show (2 : Int) ^ 1 = 2 from rfl]; omega), Int.add_comm]
theorem turn4 (v f : Int) : turnR 4 v f = (2 * v) % 256 := by
  unfold turnR
  rw [if_neg (by decide), if_pos rfl, bitAnd_m8, show v * 2 ^ Int.toNat 1 = 2 * v by rw [show (2 : Int) ^ Int.toNat 1 = 2 from rfl]; omega]
  rw [bitOr_and, bitAnd_zero]; omega
theorem turn3 {v : Int} (f : Int) (h0 : 0 ≤ v) (h1 : v < 256) : turnR 3 v f = v / 2 + 128 * Builtin.bitAnd f 1 := by
  unfold turnR
  rw [if_neg (by decide), if_neg (by decide), if_pos rfl, fdiv2, or_disj _ _ _ (by omega) (by rw [show (2 : Int) ^ Int.toNat 7 = 128 from rfl]; omega), show (2 : Int) ^ Int.toNat 7 = 128 from rfl]
  omega
theorem turn5 {v : Int} (f : Int) (h0 : 0 ≤ v) (h1 : v < 256) : turnR 5 v f = v / 2 + 128 * (v / 128) := by
  unfold turnR
  rw [if_neg (by decide), if_neg (by decide), if_neg (by decide), if_pos rfl, fdiv2, fdiv128, or_disj _ _ _ (by omega) (by rw [show (2 : Int) ^ Int.toNat 7 = 128 from rfl]; omega), show (2 : Int) ^ Int.toNat 7 = 128 from rfl]
  omega
theorem turn7 {v : Int} (f : Int) (h0 : 0 ≤ v) (h1 : v < 256) : turnR 7 v f = v / 2 + 128 * 0 := by
  unfold turnR
  rw [if_neg (by decide), if_neg (by decide), if_neg (by decide), if_neg (by decide), fdiv2, or_disj _ _ _ (by omega) (by rw [show (2 : Int) ^ Int.toNat 7 = 128 from rfl]; omega), show (2 : Int) ^ Int.toNat 7 = 128 from rfl]
  omega
theorem outL {k : Int} (v : Int) (h : k = 2 ∨ k = 4) : turnO k v = v / 128 := by
  unfold turnO; rw [if_pos h, fdiv128]
theorem outR {k : Int} (v : Int) (h : ¬ (k = 2 ∨ k = 4)) : turnO k v = v % 2 := by
  unfold turnO; rw [if_neg h, bitAnd_m1]
/-- behind the first octet the first kind is not asked -/
theorem turn_first (k m : Int) : ∀ (xs : List Int) (i : Nat) (f : Int), 0 < i → runLF (turnG k m) (enumFrom i xs) f = runLF (turnG m m) (enumFrom i xs) f
  | [], _, _, _ => rfl
  | x :: r, i, f, h => by
    have hi : ¬ ((i : Nat) : Int) = 0 := by omega
    simp only [enumFrom, runLF, turnG, if_neg hi]
    rw [turn_first k m r (i + 1) _ (by omega)]
/-- octet by octet to the left -/
theorem left_run : ∀ (xs : List Int) (i : Nat) (f : Int), Octs xs →
    (runLF (turnG 2 2) (enumFrom i xs) f).1.length = xs.length ∧ Octs (runLF (turnG 2 2) (enumFrom i xs) f).1 ∧
    2 * val xs + Builtin.bitAnd f 1 = val (runLF (turnG 2 2) (enumFrom i xs) f).1 + 256 ^ xs.length * Builtin.bitAnd (runLF (turnG 2 2) (enumFrom i xs) f).2 1
  | [], i, f, _ => by
    refine ⟨rfl, (fun x h => nomatch h), ?_⟩
    simp [runLF, enumFrom, val]
  | x :: r, i, f, h => by
    obtain ⟨⟨hx0, hx1⟩, hr⟩ := octs_cons.mp h
    obtain ⟨h1, h2, h3⟩ := left_run r (i + 1) (rotF 2 x f) hr
    have e : runLF (turnG 2 2) (enumFrom i (x :: r)) f = (turnR 2 x f :: (runLF (turnG 2 2) (enumFrom (i + 1) r) (rotF 2 x f)).1, (runLF (turnG 2 2) (enumFrom (i + 1) r) (rotF 2 x f)).2) := by
      simp only [enumFrom, runLF, turnG, ite_self, List.singleton_append]
    rw [e]
    rw [rot_out hx0 hx1, outL x (.inl rfl)] at h3
    have hb := bit01 f
    generalize (runLF (turnG 2 2) (enumFrom (i + 1) r) (rotF 2 x f)).1 = R at *
    generalize (runLF (turnG 2 2) (enumFrom (i + 1) r) (rotF 2 x f)).2 = F at *
    rw [turn2]
    refine ⟨by simp [h1], octs_cons.mpr ⟨by omega, h2⟩, ?_⟩
    simp only [val, List.length_cons]
    rw [Int.pow_succ, Int.mul_comm _ 256, Int.mul_assoc]
    omega
theorem left_run4 (x : Int) (r : List Int) (f : Int) (h : Octs (x :: r)) :
    (runLF (turnG 4 2) (enumFrom 0 (x :: r)) f).1.length = (x :: r).length ∧ Octs (runLF (turnG 4 2) (enumFrom 0 (x :: r)) f).1 ∧
    2 * val (x :: r) = val (runLF (turnG 4 2) (enumFrom 0 (x :: r)) f).1 + 256 ^ (x :: r).length * Builtin.bitAnd (runLF (turnG 4 2) (enumFrom 0 (x :: r)) f).2 1 := by
  obtain ⟨⟨hx0, hx1⟩, hr⟩ := octs_cons.mp h
  obtain ⟨h1, h2, h3⟩ := left_run r 1 (rotF 4 x f) hr
  have e : runLF (turnG 4 2) (enumFrom 0 (x :: r)) f = (turnR 4 x f :: (runLF (turnG 2 2) (enumFrom 1 r) (rotF 4 x f)).1, (runLF (turnG 2 2) (enumFrom 1 r) (rotF 4 x f)).2) := by
    have q := turn_first 4 2 r 1 (rotF 4 x f) (by decide)
    rw [← q]
    rfl
  rw [e]
  rw [rot_out hx0 hx1, outL x (.inr rfl)] at h3
  generalize (runLF (turnG 2 2) (enumFrom 1 r) (rotF 4 x f)).1 = R at *
  generalize (runLF (turnG 2 2) (enumFrom 1 r) (rotF 4 x f)).2 = F at *
  rw [turn4]
  refine ⟨by simp [h1], octs_cons.mpr ⟨by omega, h2⟩, ?_⟩
  simp only [val, List.length_cons]
  rw [Int.pow_succ, Int.mul_comm _ 256, Int.mul_assoc]
  omega
theorem val_digit : ∀ (R : List Int) (i : Nat), Octs R → i < R.length → R[i]? = some (val R / 256 ^ i % 256)
  | x :: r, 0, h, _ => by
    obtain ⟨hx, _⟩ := octs_cons.mp h
    rw [Int.pow_zero, Int.ediv_one]
    simp only [val, List.getElem?_cons_zero, Option.some.injEq]
    omega
  | x :: r, i + 1, h, hi => by
    obtain ⟨hx, hr⟩ := octs_cons.mp h
    have ih := val_digit r i hr (by simpa using hi)
    rw [List.getElem?_cons_succ, ih]
    have e : (x + 256 * val r) / 256 ^ (i + 1) = val r / 256 ^ i := by
      rw [Int.pow_succ, Int.mul_comm _ 256, ← Int.ediv_ediv_of_nonneg (by decide)]
      congr 1
      omega
    rw [show val (x :: r) = x + 256 * val r from rfl, e]
theorem told_val (R : List Int) (h : Octs R) : toldF (val R) (R.length : Nat) = R := by
  unfold toldF
  rw [show (((R.length : Nat) : Int) - 0).toNat = R.length by omega]
  apply List.ext_getElem?
  intro i
  by_cases hi : i < R.length
  · rw [val_digit R i h hi, List.getElem?_map]
    have e : (rangeKs 0 R.length)[i]? = some (i : Int) := by simp [rangeKs, hi]
    rw [e]
    simp only [Option.map_some, Option.some.injEq]
    rw [bitAnd_m8, show (8 * (i : Int)).toNat = 8 * i by omega, show (2 : Int) ^ (8 * i) = 256 ^ i by rw [Int.pow_mul]; rfl, Int.fdiv_eq_ediv_of_nonneg _ (Int.le_of_lt (pow256_pos i))]
  · rw [List.getElem?_eq_none (by rw [List.length_map, rangeKs_length]; omega), List.getElem?_eq_none (by omega)]
theorem pow_pos_even {n : Nat} (h : 0 < n) : ∃ q : Int, (256 : Int) ^ n = 256 * q := ⟨256 ^ (n - 1), by
  rw [Int.mul_comm, ← Int.pow_succ]; congr 1; omega⟩
theorem turnL_of {xs : List Int} {c first due : Int} {R : List Int} {F : Int} (h0 : 0 < xs.length) (e : runLF (turnG first 2) (enumFrom 0 xs) c = (R, F)) (hlen : R.length = xs.length) (hR : Octs R)
    (cc : Int) (hc : cc = 0 ∨ cc = 1) (hv : 2 * val xs + cc = val R + 256 ^ xs.length * Builtin.bitAnd F 1) (hd : due = 2 * val xs + cc) : TurnL xs c first due := by
  have hr := val_range R hR
  have hp := pow256_pos xs.length
  obtain ⟨q, hq⟩ := pow_pos_even h0
  rw [hlen] at hr
  refine ⟨?_, ?_⟩
  · rw [e, pw_nat, hd, fmod_of hp hr.1 hr.2 hv, ← hlen, told_val R hR]
  · rw [e, whole_val, pw_nat, Int.fdiv_eq_ediv_of_nonneg _ (Int.le_of_lt hp)]
    show Builtin.bitAnd F 1 = _
    have hb := bit01 F
    generalize Builtin.bitAnd F 1 = o at *
    generalize val R = V at *
    generalize val xs = X at *
    have h1 : X * 2 = (V - cc) + 256 ^ xs.length * o := by omega
    have h2 : 0 ≤ V - cc ∧ V - cc < 256 ^ xs.length := by
      rw [hq] at hv hr ⊢
      rcases hb with e | e <;> rw [e] at hv <;> omega
    rw [h1, Int.add_mul_ediv_left _ _ (Int.ne_of_gt hp), Int.ediv_eq_zero_of_lt h2.1 h2.2, Int.zero_add]
theorem turns_g1 (xs : List Int) (c : Int) (h0 : 0 < xs.length) (hx : Octs xs) (hc0 : 0 ≤ c) (hc1 : c ≤ 1) : TurnL xs c 2 (wholeF xs * 2 + c) := by
  obtain ⟨h1, h2, h3⟩ := left_run xs 0 c hx
  rw [bit_of hc0 hc1] at h3
  exact turnL_of h0 rfl h1 h2 c (by omega) h3 (by rw [whole_val]; omega)
theorem turns_g2 (xs : List Int) (c : Int) (h0 : 0 < xs.length) (hx : Octs xs) (hc0 : 0 ≤ c) (hc1 : c ≤ 1) : TurnL xs 1 4 (wholeF xs * 2) := by
  cases xs with
  | nil => cases h0
  | cons x r =>
    obtain ⟨h1, h2, h3⟩ := left_run4 x r 1 hx
    exact turnL_of (R := (runLF (turnG 4 2) (enumFrom 0 (x :: r)) 1).1) (F := (runLF (turnG 4 2) (enumFrom 0 (x :: r)) 1).2) h0 rfl h1 h2 0 (.inl rfl) (by rw [Int.add_zero]; exact h3) (by rw [whole_val]; omega)
theorem val_append : ∀ (a b : List Int), val (a ++ b) = val a + 256 ^ a.length * val b
  | [], b => by simp [val]
  | x :: r, b => by
    rw [List.cons_append, show val (x :: (r ++ b)) = x + 256 * val (r ++ b) from rfl, val_append r b, show val (x :: r) = x + 256 * val r from rfl, List.length_cons, Int.pow_succ, Int.mul_comm _ 256, Int.mul_assoc]
    omega
theorem val_rev (y : Int) (q : List Int) : val (y :: q).reverse = val q.reverse + 256 ^ q.length * y := by
  rw [List.reverse_cons, val_append, List.length_reverse]
  simp [val]
theorem right_step {p L V u w c o X : Int} (ih : L + p * w = 2 * V + o) : L + p * (2 * u + w) + 256 * p * c = 2 * (V + p * (u + 128 * c)) + o := by
  have e1 : p * (2 * u + w) = 2 * (p * u) + p * w := by rw [Int.mul_add, ← Int.mul_assoc, Int.mul_comm p 2, Int.mul_assoc]
  have e2 : p * (u + 128 * c) = p * u + 128 * (p * c) := by rw [Int.mul_add, ← Int.mul_assoc, Int.mul_comm p 128, Int.mul_assoc]
  rw [e1, e2, Int.mul_assoc]
  omega
/-- octet by octet to the right, the highest first -/
theorem right_run : ∀ (ys : List Int) (i : Nat) (f : Int), Octs ys →
    (runLF (turnG 3 3) (enumFrom i ys) f).1.length = ys.length ∧ Octs (runLF (turnG 3 3) (enumFrom i ys) f).1 ∧
    val ys.reverse + 256 ^ ys.length * Builtin.bitAnd f 1 = 2 * val (runLF (turnG 3 3) (enumFrom i ys) f).1.reverse + Builtin.bitAnd (runLF (turnG 3 3) (enumFrom i ys) f).2 1
  | [], i, f, _ => by
    refine ⟨rfl, (fun x h => nomatch h), ?_⟩
    simp [runLF, enumFrom, val]
  | y :: q, i, f, h => by
    obtain ⟨⟨hy0, hy1⟩, hq⟩ := octs_cons.mp h
    obtain ⟨h1, h2, h3⟩ := right_run q (i + 1) (rotF 3 y f) hq
    have e : runLF (turnG 3 3) (enumFrom i (y :: q)) f = (turnR 3 y f :: (runLF (turnG 3 3) (enumFrom (i + 1) q) (rotF 3 y f)).1, (runLF (turnG 3 3) (enumFrom (i + 1) q) (rotF 3 y f)).2) := by
      simp only [enumFrom, runLF, turnG, ite_self, List.singleton_append]
    rw [e]
    rw [rot_out hy0 hy1, outR y (by decide)] at h3
    have hb := bit01 f
    generalize (runLF (turnG 3 3) (enumFrom (i + 1) q) (rotF 3 y f)).1 = R at *
    generalize (runLF (turnG 3 3) (enumFrom (i + 1) q) (rotF 3 y f)).2 = F at *
    rw [turn3 f hy0 hy1]
    refine ⟨by simp [h1], octs_cons.mpr ⟨by omega, h2⟩, ?_⟩
    show val (y :: q).reverse + 256 ^ (y :: q).length * Builtin.bitAnd f 1 = 2 * val ((y / 2 + 128 * Builtin.bitAnd f 1) :: R).reverse + Builtin.bitAnd F 1
    rw [val_rev, val_rev, h1, List.length_cons, Int.pow_succ, Int.mul_comm _ 256]
    have hs := right_step (u := y / 2) (c := Builtin.bitAnd f 1) (X := 0) h3
    rw [show 2 * (y / 2) + y % 2 = y by omega] at hs
    exact hs
theorem right_first {k c : Int} (y : Int) (q : List Int) (f : Int) (h : Octs (y :: q)) (hk : ¬ (k = 2 ∨ k = 4)) (hc : c = 0 ∨ c = 1) (ht : turnR k y f = y / 2 + 128 * c) :
    (runLF (turnG k 3) (enumFrom 0 (y :: q)) f).1.length = (y :: q).length ∧ Octs (runLF (turnG k 3) (enumFrom 0 (y :: q)) f).1 ∧
    val (y :: q).reverse + 256 ^ (y :: q).length * c = 2 * val (runLF (turnG k 3) (enumFrom 0 (y :: q)) f).1.reverse + Builtin.bitAnd (runLF (turnG k 3) (enumFrom 0 (y :: q)) f).2 1 := by
  obtain ⟨⟨hy0, hy1⟩, hq⟩ := octs_cons.mp h
  obtain ⟨h1, h2, h3⟩ := right_run q 1 (rotF k y f) hq
  have e : runLF (turnG k 3) (enumFrom 0 (y :: q)) f = (turnR k y f :: (runLF (turnG 3 3) (enumFrom 1 q) (rotF k y f)).1, (runLF (turnG 3 3) (enumFrom 1 q) (rotF k y f)).2) := by
    have w := turn_first k 3 q 1 (rotF k y f) (by decide)
    rw [← w]
    rfl
  rw [e]
  rw [rot_out hy0 hy1, outR y hk] at h3
  generalize (runLF (turnG 3 3) (enumFrom 1 q) (rotF k y f)).1 = R at *
  generalize (runLF (turnG 3 3) (enumFrom 1 q) (rotF k y f)).2 = F at *
  rw [ht]
  refine ⟨by simp [h1], octs_cons.mpr ⟨by omega, h2⟩, ?_⟩
  show val (y :: q).reverse + 256 ^ (y :: q).length * c = 2 * val ((y / 2 + 128 * c) :: R).reverse + Builtin.bitAnd F 1
  rw [val_rev, val_rev, h1, List.length_cons, Int.pow_succ, Int.mul_comm _ 256]
  have hs := right_step (u := y / 2) (c := c) (X := 0) h3
  rw [show 2 * (y / 2) + y % 2 = y by omega] at hs
  exact hs
theorem octs_rev {xs : List Int} (h : Octs xs) : Octs xs.reverse := fun x hx => h x (List.mem_reverse.mp hx)
theorem turnR_of {xs : List Int} {c first due cc : Int} (h0 : 0 < xs.length) (hx : Octs xs) (hk : Kind first) (hc : cc = 0 ∨ cc = 1)
    (hlen : (runLF (turnG first 3) (enumFrom 0 xs.reverse) c).1.length = xs.length) (hR : Octs (runLF (turnG first 3) (enumFrom 0 xs.reverse) c).1)
    (hv : val xs + 256 ^ xs.length * cc = 2 * val (runLF (turnG first 3) (enumFrom 0 xs.reverse) c).1.reverse + Builtin.bitAnd (runLF (turnG first 3) (enumFrom 0 xs.reverse) c).2 1)
    (hd : due = val (runLF (turnG first 3) (enumFrom 0 xs.reverse) c).1.reverse) : TurnR xs c first due := by
  obtain ⟨q, hq⟩ := pow_pos_even h0
  refine ⟨hk, ?_, ?_⟩
  · rw [hd]
    have e := told_val _ (octs_rev hR)
    rw [List.length_reverse, hlen] at e
    exact e.symm
  · rw [whole_val, Int.fmod_eq_emod_of_nonneg _ (by decide)]
    have hb := bit01 (runLF (turnG first 3) (enumFrom 0 xs.reverse) c).2
    rw [hq] at hv
    rcases hc with e | e <;> rw [e] at hv <;> omega
theorem turns_g3 (xs : List Int) (c : Int) (h0 : 0 < xs.length) (hx : Octs xs) (hc0 : 0 ≤ c) (hc1 : c ≤ 1) : TurnR xs c 3 ((wholeF xs + c * pw ((xs.length : Nat) : Int)).fdiv 2) := by
  obtain ⟨h1, h2, h3⟩ := right_run xs.reverse 0 c (octs_rev hx)
  rw [List.reverse_reverse, List.length_reverse, bit_of hc0 hc1] at h3
  rw [List.length_reverse] at h1
  refine turnR_of (cc := c) h0 hx (.inr (.inr (.inl rfl))) (by omega) h1 h2 h3 ?_
  rw [whole_val, pw_nat, Int.mul_comm c, h3, Int.fdiv_eq_ediv_of_nonneg _ (by decide)]
  have hb := bit01 (runLF (turnG 3 3) (enumFrom 0 xs.reverse) c).2
  omega
theorem turns_g7 (xs : List Int) (c : Int) (h0 : 0 < xs.length) (hx : Octs xs) (hc0 : 0 ≤ c) (hc1 : c ≤ 1) : TurnR xs c 7 ((wholeF xs).fdiv 2) := by
  obtain ⟨ys, hys⟩ : ∃ ys, xs.reverse = ys := ⟨_, rfl⟩
  have hxr : ys.reverse = xs := by rw [← hys, List.reverse_reverse]
  have hl : ys.length = xs.length := by rw [← hys, List.length_reverse]
  have hyo : Octs ys := hys ▸ octs_rev hx
  cases ys with
  | nil => rw [← hl] at h0; cases h0
  | cons y q =>
    obtain ⟨⟨hy0, hy1⟩, _⟩ := octs_cons.mp hyo
    obtain ⟨h1, h2, h3⟩ := right_first (k := 7) y q c hyo (by decide) (.inl rfl) (turn7 c hy0 hy1)
    rw [← hys] at h1 h2 h3
    rw [List.length_reverse] at h1
    rw [List.reverse_reverse, List.length_reverse] at h3
    refine turnR_of (cc := 0) h0 hx (.inr (.inr (.inr (.inr rfl)))) (.inl rfl) h1 h2 h3 ?_
    rw [whole_val, Int.fdiv_eq_ediv_of_nonneg _ (by decide)]
    have hb := bit01 (runLF (turnG 7 3) (enumFrom 0 xs.reverse) c).2
    omega
theorem signed_top {p L y : Int} (hp : 0 < p) (h0 : 0 ≤ L) (h1 : L < p) (hy0 : 0 ≤ y) (hy1 : y < 256) : (if 256 * p ≤ 2 * (L + p * y) then L + p * y - 256 * p else L + p * y) = L + p * y - 256 * p * (y / 128) := by
  by_cases h : 128 ≤ y
  · have e : y / 128 = 1 := by omega
    have hm : p * 128 ≤ p * y := Int.mul_le_mul_of_nonneg_left h (Int.le_of_lt hp)
    rw [if_pos (by omega), e]; omega
  · have e : y / 128 = 0 := by omega
    have hm : p * y ≤ p * 127 := Int.mul_le_mul_of_nonneg_left (by omega) (Int.le_of_lt hp)
    rw [if_neg (by omega), e]; omega
theorem turns_g5 (xs : List Int) (c : Int) (h0 : 0 < xs.length) (hx : Octs xs) (hc0 : 0 ≤ c) (hc1 : c ≤ 1) : TurnR xs c 5 (((signedF (wholeF xs) ((xs.length : Nat) : Int)).fdiv 2).fmod (pw ((xs.length : Nat) : Int))) := by
  obtain ⟨ys, hys⟩ : ∃ ys, xs.reverse = ys := ⟨_, rfl⟩
  have hxr : ys.reverse = xs := by rw [← hys, List.reverse_reverse]
  have hl : ys.length = xs.length := by rw [← hys, List.length_reverse]
  have hyo : Octs ys := hys ▸ octs_rev hx
  cases ys with
  | nil => rw [← hl] at h0; cases h0
  | cons y q =>
    obtain ⟨⟨hy0, hy1⟩, hqo⟩ := octs_cons.mp hyo
    obtain ⟨h1, h2, h3⟩ := right_first (k := 5) (c := y / 128) y q c hyo (by decide) (by omega) (turn5 c hy0 hy1)
    have hsg : signedF (val xs) ((xs.length : Nat) : Int) = val xs - 256 ^ xs.length * (y / 128) := by
      have hr := val_range q.reverse (octs_rev hqo)
      rw [List.length_reverse] at hr
      have hv := val_rev y q
      rw [hxr] at hv
      have hp : (256 : Int) ^ xs.length = 256 * 256 ^ q.length := by rw [← hl, List.length_cons, Int.pow_succ, Int.mul_comm]
      unfold signedF
      rw [Int.toNat_natCast, hp, hv]
      exact signed_top (pow256_pos _) hr.1 hr.2 hy0 hy1
    rw [← hys] at h1 h2 h3
    rw [List.length_reverse] at h1
    rw [List.reverse_reverse, List.length_reverse] at h3
    refine turnR_of (cc := y / 128) h0 hx (.inr (.inr (.inr (.inl rfl)))) (by omega) h1 h2 h3 ?_
    rw [whole_val, pw_nat, hsg, Int.fdiv_eq_ediv_of_nonneg _ (by decide)]
    have hr := val_range _ (octs_rev h2)
    rw [List.length_reverse, h1] at hr
    have hb := bit01 (runLF (turnG 5 3) (enumFrom 0 xs.reverse) c).2
    generalize val (runLF (turnG 5 3) (enumFrom 0 xs.reverse) c).1.reverse = V at *
    generalize Builtin.bitAnd (runLF (turnG 5 3) (enumFrom 0 xs.reverse) c).2 1 = o at *
    have e : (val xs - 256 ^ xs.length * (y / 128)) / 2 = V + 256 ^ xs.length * (-(y / 128)) := by
      rw [Int.mul_neg]; omega
    rw [e]
    exact fmod_of (pow256_pos _) hr.1 hr.2 rfl

/- part 11 -/

section
open LCg
variable {prog : Program} {w : World} {A : Around} {E : Value → Shared → Prop} {s : Shared} {h₀ : Heap} {L : Addr} {m : Str → Option Value} {env : Env} {news : Led}
/-- an element of a comprehension over a range of any step is an int, and the ledger stands -/
noncomputable def EltR (prog : Program) (w : World) (A : Around) (h₀ : Heap) (L : Addr) (m : Str → Option Value) (env : Env) (elt : Expr) (x : Str) (scope : Scope) (cl : List (Str × Addr)) (news : Led) (ks : List Int) (g : Int → Int) (s : Shared) : Prop :=
  ∀ (k : Int) (t : Tok) (C : Addr) (oC : Obj) (m₂ : Str → Option Value) (h : Heap) (tk : Nat) (Q' E' : Value → Shared → Prop), k ∈ ks → NsObj oC m₂ → m₂ x = some (.int k t) →
    Fr h₀ L h m → News h₀ L h ((C, oC) :: news) → (∀ t tk', Q' (.int (g k) t) { s with heap := h, toks := tk' }) → wpAny (model prog w) A (eval elt (compEnvC scope cl C env)) Q' E' { s with heap := h, toks := tk }
noncomputable def SrcS (prog : Program) (w : World) (A : Around) (h₀ : Heap) (L : Addr) (m : Str → Option Value) (env : Env) (elt : Expr) (x y : Str) (scope : Scope) (cl : List (Str × Addr)) (Q : Flow → Shared → Prop) (xv : Value) (s₁ : Shared) : Prop :=
  ∃ (r : Addr) (a b c : Int) (t u v : Tok) (n : Nat) (ks : List Int) (g : Int → Int) (news : Led), xv = .ref r ∧ A.handled = none ∧ Fr h₀ L s₁.heap m ∧ News h₀ L s₁.heap news ∧ IsRange s₁.heap r a b c t u v ∧ Builtin.Range.small a b c = true ∧ Builtin.Range.rangeSize a b c = (n : Int) ∧ n ≤ sizeLine ∧
    ks.length = n ∧ (∀ i : Nat, i < n → ks[i]? = some (a + i * c)) ∧ (∀ h tk, EltR prog w A h₀ L m env elt x scope cl news ks g { s₁ with heap := h, toks := tk }) ∧
    (∀ D ys h tk, Fr h₀ L h (fun z => if z = y then some (.ref D) else m z) → News h₀ L h ((D, lst ys) :: news) → Off1 D news → IntsAre ys (ks.map g) → Q .next { s₁ with heap := h, toks := tk })
theorem Assign_rng {elt iter : Expr} {x y : Str} {px py : Pos} {scope : Scope} {cl : List (Str × Addr)} {pos spos : Pos} {Q : Flow → Shared → Prop} (F₀ : Fr h₀ L s.heap m) (hLe : env.locals = L)
    (hsw : swapsWith (.ListComp elt [⟨.Name x px, iter, [], 0⟩] scope pos) (some (.Name y py)) spos.line env = pure true)
    (hclos : closureFor scope env = pure cl) (hcell : ∀ z ∈ scope.names, z.2 ≠ .cell) (hkind : scope.kind = .function)
    (hnames : ∀ z ∈ scope.names, z.2 = .local → scope.names.lookup z.1 = some .local) (hx : scope.names.lookup x = some .local)
    (hy : env.kindOf y = some .local) (hp : (env.scope.kind == .class || (env.scope.kind == .module && env.locals != env.globals)) = false)
    (h : wpAny (model prog w) A (eval iter env) (SrcS prog w A h₀ L m env elt x y scope cl Q) E s)
    (hs : ∀ x, foldedSetIterable iter env x = pure x := by intro _; rfl) :
    wpAny (model prog w) A (exec (.Assign [.Name y py] (.ListComp elt [⟨.Name x px, iter, [], 0⟩] scope pos) spos) env) Q E s := by
  subst hLe
  rw [exec_Assign_Name_used _ _ _ _ hsw]
  refine wpAny_bind (wpAny_standAt (wpAny_bind ?_))
  show wpAny _ A (do let _ ← comprehension (.ListComp elt [⟨.Name x px, iter, [], 0⟩] scope pos) scope env _ (newList []) false (eval iter env) (some (assign (.Name y py) env))) _ _ s
  refine wpAny_bind (wpAny_mono (wpAny_comprehension_free (use := some (assign (.Name y py) env)) (Q := fun _ s' => Q .next s') rfl hs hclos hkind hnames
    (wpAny_mono h (fun xv s₁ h₁ => ?_) fun _ _ e => e)) (fun _ s' hq => wpAny_pure (wpAny_pure hq)) fun _ _ e => e)
  obtain ⟨r, a, b, c, t, u, v, n, ks, g, news, rfl, hh, F, N, hr, hsm, hn, hsz, hkl, hki, helt, hfin⟩ := h₁
  refine wpAny_pyIter_range hr hsm ?_
  have grow : ∀ q o, s₁.heap.get? q = some o → (s₁.heap.push { cls := .type "range_iterator", data := .fields #[rawInt a, rawInt (Builtin.Range.rangeSize a b c), rawInt c] }).get? q = some o := fun _ _ e => Heap.get?_push_of_some _ e
  have R := kcf_rest (prog := prog) (w := w) (A := A) (h₀ := h₀) (L := env.locals) (m := m) (env := env) (elt := elt) (x := x) (scope := scope) (cl := cl) (s := { s₁ with heap := s₁.heap.push { cls := .type "range_iterator", data := .fields #[rawInt a, rawInt (Builtin.Range.rangeSize a b c), rawInt c] } })
    (S := fun _ => True) (P := fun i v => i < n ∧ ∃ t, v = .int (a + i * c) t)
    (Fin := fun ys news' => ∀ D h tk, Fr h₀ env.locals h (fun z => if z = y then some (.ref D) else m z) → News h₀ env.locals h ((D, lst ys) :: news') → Off1 D news' → Q .next { s₁ with heap := h, toks := tk })
    (news := news) (n := n) (ks := ks) g hkl (fun i v hi hv => by obtain ⟨_, t, e⟩ := hv; exact ⟨_, t, hki i hi, e⟩)
    (fun k t I oI C oC D m₂ ys h tk E' hk hC hx' F' N' off ne _ => by
      refine helt s₁.heap s₁.toks k t C oC m₂ h tk _ E' hk hC hx' F' (fun p hp => N' p (.tail _ ((List.mem_cons.mp hp).elim (fun e => e ▸ .head _) fun q => .tail _ (.tail _ q)))) fun t' tk' => ?_
      exact ⟨h, tk', news, rfl, F', N', off, trivial, rfl, t', rfl⟩)
    (fun ys hys D h tk F' N' o1 => hfin D ys h tk F' N' o1 hys)
  refine block_U (I := s₁.heap.objs.size) (n := n) (Walks.range hh s₁.heap.objs.size a c n).bound hsz (fun i h st => ⟨_, st⟩) (fun i h h' o nw st e e' _ _ _ => ?_) hcell hkind hx ?_ (fun q hq => ?_)
      (F.keeps grow) (N.grown grow) (Nat.ne_of_lt F.ns.lt) (next_is_new F) (fun p hp => Nat.ne_of_lt (Heap.lt_size (N p hp).1)) trivial R ?_
  · have st' : h.get? s₁.heap.objs.size = some _ := st
    show h'.get? s₁.heap.objs.size = some _
    rw [e', ← e]; exact st'
  · show IsRangeIter _ _ _ _ _
    rw [hn]; simpa using Heap.get?_push_size _ rfl
  · rw [List.mem_singleton.mp hq]
    show s₁.heap.objs.size < (s₁.heap.push _).objs.size
    rw [Heap.size_push]; exact Nat.lt_succ_self _
  · intro D C h' tk m' ys news' F' N' o1 hn' hC₀ hD₀ hCL hDL hCD offC fin
    show wpAny _ A (assign (.Name y py) env (.ref D)) _ _ _
    refine wpAny_assign_Name (wpAny_storeName_local hy F'.ns (fun h₂ hn₂ hs₂ => ?_) hp)
    have hL₀ : h₀.get? env.locals = none := Heap.get?_none_of_le F'.above
    have F₂ : Fr h₀ env.locals h₂ (fun z => if z = y then some (.ref D) else m z) := ⟨hn₂, fun q o e => hs₂.extBut q o (fun w => by rw [w, hL₀] at e; cases e) (F'.keep q o e), F'.above⟩
    refine ⟨m', hn'.sameBut hs₂ hCL, fun h'' hs'' => fin D h'' _ (F₂.change hs'' hCL hC₀) (fun p hp => ⟨hs''.extBut _ _ ?_ (hs₂.extBut _ _ (N' p hp).2.1 (N' p hp).1), (N' p hp).2⟩) o1⟩
    rcases List.mem_cons.mp hp with rfl | hp
    · exact Ne.symm hCD
    · exact offC p hp
theorem rng_src {elt : Expr} {x y : Str} {scope : Scope} {cl : List (Str × Addr)} {Q : Flow → Shared → Prop} {r : Addr} {a b c : Int} {t u v : Tok} (n : Nat) (ks : List Int) (g : Int → Int) (hh : A.handled = none) (F : Fr h₀ L s.heap m) (N : News h₀ L s.heap news)
    (hr : IsRange s.heap r a b c t u v) (hsm : Builtin.Range.small a b c = true) (hn : Builtin.Range.rangeSize a b c = (n : Int)) (hsz : n ≤ 1000) (hkl : ks.length = n) (hki : ∀ i : Nat, i < n → ks[i]? = some (a + i * c))
    (helt : ∀ h tk, EltR prog w A h₀ L m env elt x scope cl news ks g { s with heap := h, toks := tk })
    (hfin : ∀ D ys h tk, Fr h₀ L h (fun z => if z = y then some (.ref D) else m z) → News h₀ L h ((D, lst ys) :: news) → Off1 D news → IntsAre ys (ks.map g) → Q .next { s with heap := h, toks := tk }) :
    SrcS prog w A h₀ L m env elt x y scope cl Q (.ref r) s :=
  ⟨r, a, b, c, t, u, v, n, ks, g, news, rfl, hh, F, N, hr, hsm, hn, by rw [sizeLine_eq]; omega, hkl, hki, helt, hfin⟩
end
local macro_rules | `(tactic| walk_at "exec Assign cons ListComp") => `(tactic| (k_here; k_dflt (refine Assign_rng (F₀ := by k_asm) (by rfl) (by with_unfolding_all rfl) (by with_unfolding_all rfl) (by decide) (by rfl) (by decide) (by rfl) (by rfl) (by rfl) ?_)))
local macro_rules | `(tactic| k_all) => `(tactic| assumption)
local macro_rules | `(tactic| walk_at "exec For Name IfExp cons nil") => `(tactic| (k_here; (rename Fr _ _ _ _ => lF'); (with_unfolding_all refine' For_turns lF' ?_; k_whole)))

@[irreducible] noncomputable def pd (n : Int) : Int := 10 ^ n.toNat
theorem pd_def (n : Int) : pd n = 10 ^ n.toNat := by unfold pd; rfl
theorem pd_pos (n : Int) : 0 < pd n := by rw [pd_def]; exact Int.pow_pos (by decide)
theorem pd_ne (n : Int) : pd n ≠ 0 := Int.ne_of_gt (pd_pos n)
theorem pow10 {prog : Program} {w : World} {A : Around} {E : Value → Shared → Prop} {s : Shared} {n : Int} {t u : Tok} {Q : Value → Shared → Prop} (hn : 0 ≤ n) (hn2 : n ≤ 100) (h : Q (.int (pd n) s.toks) { s with toks := s.toks + 1 }) :
    wpAny (model prog w) A (binaryOp .Pow (.int 10 t) (.int n u)) Q E s := pow_int_small hn (by omega) (by decide) (by rw [← pd_def]; exact h)
theorem pd_py {n : Int} (h : n ≤ 100) : (pd n).natAbs.log2 < 9000 := by
  rw [pd_def, Int.natAbs_pow]
  have e : ((10 : Int).natAbs) ^ n.toNat ≤ 16 ^ n.toNat := Nat.pow_le_pow_left (by decide) _
  have e2 : (16 : Nat) ^ n.toNat = 2 ^ (4 * n.toNat) := by rw [Nat.pow_mul]
  have e3 : (2 : Nat) ^ (4 * n.toNat) < 2 ^ 9000 := Nat.pow_lt_pow_right (by decide) (by omega)
  exact (Nat.log2_lt (Nat.ne_of_gt (Nat.pow_pos (by decide)))).mpr (by omega)
local macro_rules | `(tactic| walk_at "binaryOp Pow int int") => `(tactic| (k_here; (with_reducible show wpAny _ _ (binaryOp Operator.Pow (Value.int 10 _) (Value.int _ _)) _ _ _); (with_reducible refine pow10 ?a ?b ?_); (case a => omega); (case b => omega); (try dsimp only)))
local macro_rules | `(tactic| walk_at "binaryOp FloorDiv int int") => `(tactic| (k_here; (with_reducible show wpAny _ _ (binaryOp Operator.FloorDiv (Value.int _ _) (Value.int (pd _) _)) _ _ _); (with_reducible refine floordiv_int (pd_ne _) ?_ (Or.inl (PyProof.noPylong_of_log2 (pd_py ?kbp)))); (case kbp => omega); (try dsimp only)))

section
variable {prog : Program} {w : World} {A : Around} {E : Value → Shared → Prop} {s : Shared} {h₀ : Heap} {L : Addr} {m : Str → Option Value} {news : Led}
theorem cut_two {sl : Addr} {u : Tok} {Q : Int × Int × Nat → Shared → Prop} (hs : s.heap.IsSliceOf sl .none (.int 2 u) .none) (h : Q ((0 : Int), 1, 2) s) :
    wpAny (model prog w) A (Builtin.Slice.sliceApplied (.ref sl) (pure ((3 : Nat) : Int))) Q E s := by
  obtain ⟨os, hos, hcs, hds⟩ := id hs
  unfold Builtin.Slice.sliceApplied Builtin.Slice.sliceFields
  refine wpAny_bind (wpAny_bind (wpAny_field hos hds (x := .none) rfl (wpAny_bind (wpAny_field hos hds (x := .int 2 u) rfl (wpAny_bind (wpAny_field hos hds (x := .none) rfl (wpAny_pure ?_)))))))
  refine wpAny_bind (slicePart_none ?_)
  show wpAny _ _ (if ((1 : Int) == 0) = true then _ else _) _ _ s
  rw [if_neg (by decide)]
  refine wpAny_bind (slicePart_none (wpAny_bind (slicePart_int (wpAny_bind (wpAny_pure ?_)))))
  exact wpAny_pure h
theorem item_two {t sl : Addr} {x y z : Value} {u : Tok} {Q : Value → Shared → Prop} (ht : IsTup s.heap t #[x, y, z]) (hs : s.heap.IsSliceOf sl .none (.int 2 u) .none)
    (h : Q (.ref s.heap.objs.size) { s with heap := s.heap.push { cls := .type "tuple", data := .seq #[x, y] } }) : wpAny (model prog w) A (getItem (.ref t) (.ref sl)) Q E s := by
  have hsz : sizeOk (.seq #[x, y]) := by
    show #[x, y].size ≤ sizeLine
    rw [sizeLine_eq]
    show 2 ≤ _
    omega
  have hTs : s.TypeIs (.ref sl) "slice" := by obtain ⟨os, hos, hcs, _⟩ := id hs; exact ⟨os, hos, hcs⟩
  unfold getItem
  try with_reducible refine wpAny_holding ?_
  first | refine wpAny_bind (wpAny_pure ?_) | skip
  refine wpAny_bind (wpAny_sequenceKey ht.typeIs (by decide) ?_)
  refine wpAny_bind (wpAny_callSpecial?_slot (name := Str.ofString "__getitem__") ht.typeIs slot_tuple_getitem
    (wpAny_call_entry slot_tuple_getitem ht.typeIs entry_tuple_getitem ?_ (args_tuple_getitem _ _)))
  show wpAny _ _ (Builtin.Tuple.tupleItemsOf (.ref t) >>= _) _ _ s
  refine wpAny_bind (tupleItemsOf_ ht ?_)
  refine wpAny_bind (wpAny_typeOf hTs ?_)
  rw [if_pos (by decide)]
  refine wpAny_bind (cut_two hs ?_)
  show wpAny _ _ (if ((0 : Int) == 0 && (1 : Int) == 1 && (2 : Nat) == 3) = true then _ else _) _ _ s
  rw [if_neg (by decide)]
  first
    | exact wpAny_bind (m := Builtin.Tuple.tupleExact _) (wpAny_newObj_type (wpAny_pure ⟨_, rfl, wpAny_pure h⟩) hsz)
    | exact wpAny_bind (m := Builtin.Tuple.tupleExact _) (wpAny_newObj_type (wpAny_bind (wpAny_pure (wpAny_pure ⟨_, rfl, wpAny_pure h⟩))) hsz)
    | exact wpAny_bind (wpAny_bind (m := Builtin.Tuple.tupleExact _) (wpAny_newObj_type (wpAny_pure (wpAny_pure ⟨_, rfl, wpAny_pure h⟩)) hsz))
    | exact wpAny_bind (wpAny_bind (m := Builtin.Tuple.tupleExact _) (wpAny_newObj_type (wpAny_pure ⟨_, rfl, wpAny_pure h⟩) hsz))
theorem two_led {value slice : Expr} {t : Addr} {x y z : Value} {c : Nat} {u : Tok} {Q : Value → Shared → Prop}
    (F : Fr h₀ L s.heap m) (N : News h₀ L s.heap news) (hm : (t, tupO #[x, y, z] c) ∈ news)
    (h : ∀ D h', Fr h₀ L h' m → News h₀ L h' ((D, tupO #[x, y] 0) :: news) → (∀ p ∈ news, p.1 < D) → Q (.ref D) { s with heap := h' })
    (hs : subscripted slice false (.ref t) (.ref s.heap.objs.size) = operate [.ref s.heap.objs.size, .ref t] (getItem (.ref t) (.ref s.heap.objs.size)))
    (hg : ∀ r, letTemporaryGo value (.ref t) r = pure ()) :
    wpAny (model prog w) A (subscriptTail value slice (.ref t) (.ref s.heap.objs.size)) Q E { s with heap := s.heap.push { cls := .type "slice", data := .fields #[.none, .int 2 u, .none] } } := by
  have ht : IsTup s.heap t #[x, y, z] := ⟨_, (N _ hm).1, rfl, _, rfl⟩
  have ht' : IsTup (s.heap.push { cls := .type "slice", data := .fields #[.none, .int 2 u, .none] }) t #[x, y, z] := ht.keeps fun _ _ e => Heap.get?_push_of_some _ e
  refine subscriptTail_ops (s := { s with heap := s.heap.push { cls := .type "slice", data := .fields #[.none, .int 2 u, .none] } }) ht'.typeIs slot_tuple_getitem.lookup
    (item_two ht' (Heap.IsSliceOf.new ..) ?_) hs hg
  have N1 := News.push (F.push { cls := .type "slice", data := .fields #[.none, .int 2 u, .none] }) (N.grown fun _ _ e => Heap.get?_push_of_some _ e) { cls := .type "tuple", data := .seq #[x, y] }
  exact h _ _ ((F.push _).push _) N1 fun p hp => by
    rw [Heap.size_push]
    exact Nat.lt_succ_of_lt (Heap.lt_size (N p hp).1)
theorem two_ledS {value slice : Expr} {t : Addr} {x y z : Value} {c : Nat} {u : Tok} {Q : Value → Shared → Prop} {hp : Heap} {tk : Nat}
    (F : Fr h₀ L hp m) (N : News h₀ L hp news) (hm : (t, tupO #[x, y, z] c) ∈ news)
    (h : ∀ D h', Fr h₀ L h' m → News h₀ L h' ((D, tupO #[x, y] 0) :: news) → (∀ p ∈ news, p.1 < D) → Q (.ref D) { s with heap := h', toks := tk })
    (hs : subscripted slice false (.ref t) (.ref hp.objs.size) = operate [.ref hp.objs.size, .ref t] (getItem (.ref t) (.ref hp.objs.size)))
    (hg : ∀ r, letTemporaryGo value (.ref t) r = pure ()) :
    wpAny (model prog w) A (subscriptTail value slice (.ref t) (.ref hp.objs.size)) Q E { s with heap := hp.push { cls := .type "slice", data := .fields #[.none, .int 2 u, .none] }, toks := tk } :=
  two_led (s := { s with heap := hp, toks := tk }) F N hm h hs hg
end
local macro_rules | `(tactic| walk_at "subscriptTail") => `(tactic| (k_here; (with_reducible show wpAny _ _ (subscriptTail _ (PySem.Expr.Slice none (some _) none _) (Value.ref _) (Value.ref _)) _ _ _); k_dflt (refine two_ledS (by k_asm) (by k_asm) (by k_mem) ?_ (by with_unfolding_all rfl) (by kmk_pure)); intro D' h' F' N' l1; (try k_lt l1); (try dsimp only); (try k_sweep)))

theorem evens_get : ∀ (n : Nat) (a : Int) (i : Nat), i < n → (evens a n)[i]? = some (a + i * 2)
  | 0, _, _, h => absurd h (Nat.not_lt_zero _)
  | n + 1, a, 0, _ => by simp [evens]
  | n + 1, a, i + 1, h => by
    have q := evens_get n (a + 2) i (Nat.lt_of_succ_lt_succ h)
    have e : a + 2 + (i : Int) * 2 = a + ((i + 1 : Nat) : Int) * 2 := by omega
    rw [e] at q
    simpa [evens] using q
theorem getD_digit {xs : List Int} (hx : ∀ x ∈ xs, 0 ≤ x ∧ x < 10) (i : Nat) : 0 ≤ xs.getD i 0 ∧ xs.getD i 0 < 10 := by
  rw [List.getD_eq_getElem?_getD]
  cases h : xs[i]? with
  | none => exact ⟨by decide, by decide⟩
  | some x => exact hx x (List.mem_of_getElem? h)
noncomputable def packG (xs : List Int) (k : Int) : Int := Builtin.bitOr (xs.getD k.toNat 0) (xs.getD (k + 1).toNat 0 * 2 ^ Int.toNat 4)
noncomputable def packF (xs : List Int) (q : Nat) : List Int := (evens 0 q).map (packG xs)
noncomputable def numF (xs : List Int) : Int := (resE (fun i v => v * pd i) xs).sum
noncomputable def rldG (b f : Int) : List Int × Int := ([rldV f b], rldA f b)
noncomputable def rrdG (b f : Int) : List Int × Int := ([rrdV f b], rrdA f b)
noncomputable abbrev a0F (hg d : Int) : Int := Builtin.bitOr (hg * 2 ^ Int.toNat 4) d
noncomputable def tellG (goal k : Int) : Int := Builtin.bitOr ((goal.fdiv (pd (2 * k))).fmod 10) ((goal.fdiv (pd (2 * k + 1))).fmod 10 * 2 ^ Int.toNat 4)
noncomputable abbrev tellF (goal : Int) (q : Nat) : List Int := (rangeKs 0 q).map (tellG goal)
noncomputable def digF (bl : Bool) (ps : List Int) (a : Int) : List Int × Int := match bl with
  | true => runLF rldG ps a
  | false => ((runLF rrdG ps.reverse a).1.reverse, (runLF rrdG ps.reverse a).2)
/-- what the law asks of the digits led on -/
theorem rangeKs_get0 (n i : Nat) (h : i < n) : (rangeKs 0 n)[i]? = some (0 + (i : Int) * 1) := by simp [rangeKs, h]
theorem led_fL {h₀ h : Heap} {L : Addr} {e2 f e3 c : Addr × Obj} {L1 : Led} (N : News h₀ L h (e2 :: f :: e3 :: c :: L1)) : News h₀ L h (f :: e3 :: c :: L1) := news_tail N
theorem led_fR {h₀ h : Heap} {L : Addr} {e1 e2 f e3 c : Addr × Obj} {L1 : Led} (N : News h₀ L h (e1 :: e2 :: f :: e3 :: c :: L1)) : News h₀ L h (f :: e1 :: e3 :: c :: L1) := fun p hp => by
  refine N p ?_
  simp only [List.mem_cons] at hp ⊢
  grind
structure DigR (xs : List Int) (q : Nat) (d hg : Int) (bl : Bool) (goal out : Int) : Prop where
  told : (digF bl ((evens 0 q).map (packG xs)) (a0F hg d)).1 = tellF goal q
  out : (digF bl ((evens 0 q).map (packG xs)) (a0F hg d)).2 = a0F hg out
theorem led_cell {h₀ h : Heap} {L : Addr} {e1 e2 e3 e4 e5 e6 e7 c : Addr × Obj} {news : Led} (N : News h₀ L h (e1 :: e2 :: e3 :: e4 :: e5 :: e6 :: c :: e7 :: news)) (h1 : e1.1 ≠ c.1) (h2 : e2.1 ≠ c.1) (h3 : e3.1 ≠ c.1) (h4 : e4.1 ≠ c.1) (h5 : e5.1 ≠ c.1) (h6 : e6.1 ≠ c.1) (h7 : e7.1 ≠ c.1) (hn : ∀ p ∈ news, p.1 ≠ c.1) :
    ∃ L1, News h₀ L h (c :: L1) ∧ (∀ p ∈ L1, p.1 ≠ c.1) ∧ e1 ∈ L1 ∧ e2 ∈ L1 ∧ e3 ∈ L1 ∧ e6 ∈ L1 ∧ e7 ∈ L1 ∧ ∀ p ∈ news, p ∈ L1 := by
  refine ⟨e1 :: e2 :: e3 :: e4 :: e5 :: e6 :: e7 :: news, fun p hp => ?_, ?_, .head _, .tail _ (.head _), .tail _ (.tail _ (.head _)), .tail _ (.tail _ (.tail _ (.tail _ (.tail _ (.head _))))), .tail _ (.tail _ (.tail _ (.tail _ (.tail _ (.tail _ (.head _)))))), fun p h => .tail _ (.tail _ (.tail _ (.tail _ (.tail _ (.tail _ (.tail _ h))))))⟩
  · refine N p ?_
    simp only [List.mem_cons] at hp ⊢
    grind
  · simp only [List.forall_mem_cons]
    exact ⟨h1, h2, h3, h4, h5, h6, h7, hn⟩

theorem digits_does (w : World) (news : Led) (la : Addr) (vs : List Value) (n : Nat) (xs : List Int) (d : Int) (td : Tok) (hg : Int) (th : Tok) (q : Nat) (ha : (la, listOf vs.toArray n) ∈ news)
    (hi : IntsAre vs xs) (hl : xs.length = 2 * q) (hq0 : 0 < q) (hq : q ≤ 6) (hx : ∀ x ∈ xs, 0 ≤ x ∧ x < 10) (hd0 : 0 ≤ d) (hd1 : d < 10) (hg0 : 0 ≤ hg) (hg1 : hg < 16)
    (hL : DigR xs q d hg true (numF xs * 10 + d) ((numF xs).fdiv (pd (((xs.length : Nat) : Int) - 1)))) (hR : DigR xs q d hg false ((d * pd ((xs.length : Nat) : Int) + numF xs).fdiv 10) ((numF xs).fmod 10)) : Does w 14 176 news [.ref la, .int d td, .int hg th] (OutB news true) := by
  unfold Does
  intro loose mean mg mb dp un gd cn cs a₀ ccd cl outer A₀ base h₀ L m s Q E B F X N T hk hdp hun hret
  refine fill0 (by k_fill; exact ⟨rfl, rfl⟩) ?_
  refine wpAny_call ?_
  k_dflt (refine' code_defC ?k1 ?k2 ?k3 ?k4 ?k5 ?kA ?kF ?kK ?k6 ?k7 ?k8 ?k9 ?kB ?kD ?_ ?c2 ?c3 ?c4; (case kA => exact rfl); (case kF => exact rfl); (case kK => assumption); (case k1 => k_asm); (case k2 => k_asm); (case k3 => k_asm); (case k4 => k_asm); (case k5 => k_asm); (case k6 => k_is); (case k7 => k_is); (case k8 => ktr_room); (case k9 => exact BindsTo.of_eq rfl); (case kB => exact rfl); (case kD => decide +kernel); (case c2 => exact rfl); (case c3 => exact rfl); (case c4 => exact rfl); k_whole; intro g' L' h' tk' cells' FG' F' N' Y' B' X' T' l1; (try k_lt l1); k_cells Y'; (try simp only [List.cons_append, List.nil_append] at N'); (try dsimp only); (try k_lift B'); (try k_fold))

  rename Obj.data _ = Data.cell _ => dC2
  revert dC2
  rename Obj.data _ = Data.cell _ => dC1
  replace dC1 : _ = Data.cell none := dC1
  intro dC2
  replace dC2 : _ = Data.cell (some (.ref la)) := dC2
  repeat' (first | (k_unfold; (try dsimp only)) | (k_end; wrow_close) | (walk1) | (dsimp only; walk1) | (leave1; walk_say "STEP leave1"; try dsimp only))
  rename Fr _ _ _ _ => F1
  rename News _ _ _ _ => N1
  rename IsRange _ _ _ _ _ _ _ _ => R1
  refine rng_src q (evens 0 q) (packG xs) (by rfl) F1 N1 R1 (small_two (by omega) (by omega)) (rangeSize_two (n := q) (by omega)) (by omega) (evens_length q 0) (evens_get q 0) ?elt1 ?fin1
  case elt1 =>
    intro h1 tk1 k t C oC m₂ h tk Q' E' hk hC hx1 F' N' hq
    obtain ⟨hk0, hk1⟩ := evens_mem _ _ _ hk
    obtain ⟨hy0, hy1⟩ := getD_digit hx k.toNat
    obtain ⟨hy2, hy3⟩ := getD_digit hx (k + 1).toNat
    dsimp only
    k_steps
    all_goals exact hq _ _
  case fin1 =>
    intro D1 ys1 h tk F' N' o1 hys1
    dsimp only
    simp only [LCg.Off1, and_true] at o1
    repeat' (first | (k_unfold; (try dsimp only)) | (k_end; wrow_close) | ((fail_if_success (with_reducible show wpAny _ _ (call (Value.type "enumerate") _) _ _ _)); walk1) | (dsimp only; (fail_if_success (with_reducible show wpAny _ _ (call (Value.type "enumerate") _) _ _ _)); walk1) | (leave1; walk_say "STEP leave1"; try dsimp only))
    refine enum_src (by rfl) F' N' (.tail _ (.tail _ (.tail _ ha))) hi (by omega) (fun i v => v * pd i) ?elt2 ?fin2
    case elt2 =>
      intro i v ti tv C oC m₂ h tk Q' E' hv hC hx1 hx2 F' N' hq
      have hlt : i < xs.length := (List.getElem?_eq_some_iff.mp hv).1
      obtain ⟨hv0, hv1⟩ := hx v (List.mem_of_getElem? hv)
      have hi0 : (0 : Int) ≤ (i : Int) := by omega
      have hi1 : (i : Int) ≤ 11 := by omega
      generalize (i : Int) = j at *
      clear hv hlt
      k_steps
      all_goals exact hq _ _
    case fin2 =>
      intro D2 ys2 h tk F' N' o2 hys2
      simp only [LCg.Off1, and_true] at o2
      repeat' (first | (k_unfold; (try dsimp only)) | (k_end; wrow_close) | ((fail_if_success (with_reducible show wpAny _ _ (pyIter _) _ _ _)); walk1) | (dsimp only; (fail_if_success (with_reducible show wpAny _ _ (pyIter _) _ _ _)); walk1) | (leave1; walk_say "STEP leave1"; try dsimp only))
      rename Fr _ _ _ _ => F1
      rename News _ _ _ _ => N1
      rename (∀ p ∈ news, p.1 < _) => lnews
      obtain ⟨L1, NL, hcg, w0, tR, tL, mD1, mcd, mn⟩ := led_cell N1 (by k_ne) (by k_ne) (by k_ne) (by k_ne) (by k_ne) (by k_ne) (by k_ne) (fun p hp => Nat.ne_of_lt (Nat.lt_trans (lnews p hp) (Nat.lt_trans (Nat.lt_succ_self _) (Nat.lt_succ_self _))))
      clear N1 lnews
      (repeat (rename (_ < _ ∧ _) => hx9; clear hx9))
      (repeat (rename (_ ≠ _ ∧ _) => hx9; clear hx9))
      have ha0 := mn _ ha
      replace mD1 : (D1, listOf ys1.toArray ys1.length) ∈ L1 := mD1
      have hpl : (List.map (packG xs) (evens 0 q)).length ≤ 1000 := by rw [List.length_map, evens_length]; omega
      have hm2 : ((xs.length : Nat) : Int).fdiv 2 = (q : Int) := by rw [Int.fdiv_eq_ediv_of_nonneg _ (by decide)]; omega
      with_unfolding_all refine iter_tupTurns (vs := [.ref _, .ref _]) (by rfl) F1 NL (.tail _ w0) (by rfl) (by rfl) ?_
      intro I lI
      have lI1 : ∀ p ∈ L1, p.1 < I := fun p hp => lI p (.tail _ hp)
      have hcI := ltN (lI _ (.head _))
      dsimp only at hcI hcg
      refine loop_S (σ := Obj) (fun items o => (∀ a ∈ items, ∃ T bl goal out t1 t2 c1, a = .val (.ref T) ∧ (T, tupO #[.bool bl, .int goal t1, .int out t2] c1) ∈ L1 ∧ DigR xs q d hg bl goal out) ∧ ∃ v₀, o.data = .cell v₀) (fun o => (L' + 1 + 1, o) :: L1)
        [Str.ofString "is_left", Str.ofString "out", Str.ofString "a", Str.ofString "found", Str.ofString "octet", Str.ofString "left", Str.ofString "told"] _ ⟨?h0, _, dC1⟩ ?turn ?done
      case h0 =>
        intro a ha
        simp only [List.map_cons, List.map_nil, List.mem_cons, List.not_mem_nil, or_false] at ha
        rcases ha with rfl | rfl
        · exact ⟨_, _, _, _, _, _, _, rfl, tL, hL⟩
        · exact ⟨_, _, _, _, _, _, _, rfl, tR, hR⟩
      case turn =>
        rintro a2 r o u v h tk ⟨hP, v₀, hst⟩ hv F'
        obtain ⟨T, bl, goal, out, t1, t2, c1, rfl, mT, hT⟩ := hP a2 (.head _)
        replace hP := fun a ha => hP a (List.Mem.tail _ ha)
        have h1 := hT.told
        have h2 := hT.out
        cases hv
        clear hT tL tR dC1
        ktu_objs
        (try clear_value *)
        (try k_fold)
        cases bl
        · skip
          repeat' (first | (k_unfold; (try dsimp only)) | (k_end; wrow_close) | ((fail_if_success (with_reducible show wpAny _ _ (pyIter _) _ _ _)); walk1) | (dsimp only; (fail_if_success (with_reducible show wpAny _ _ (pyIter _) _ _ _)); walk1) | (leave1; walk_say "STEP leave1"; try dsimp only))
          rename Fr _ _ _ _ => F5
          rename News _ _ _ _ => N5
          rename Obj.data _ = Data.cell (some (Value.int goal _)) => dC5
          rename IntsAre _ (List.reverse _) => hws
          have N6 := led_fR N5
          clear N5
          rename (I < _ ∧ L' + 1 + 1 < _ ∧ AllLt _ L1) => hfd
          have hfall := allLt_mem hfd.2.2
          with_unfolding_all refine iter_listTurns  (by rfl) F5 N6 (.tail _ (.head _)) (by rfl) (by rfl) ?_
          intro I2 lI2
          have hDI := ltN (lI2 _ (.head _))
          dsimp only at hDI ⊢
          refine loop_LF (Is := IsV) rrdG (Str.ofString "a") [Str.ofString "octet", Str.ofString "left"] (List.map (packG xs) (evens 0 q)).reverse 6 (f₀ := a0F hg d) (t₀ := _) (fun _ => 1) (items_vals hws) (fun _ _ _ => rfl) ?cap rfl .nil ?keep ?turn2 ?done2
          case cap => (rw [sum_const]; simp only [List.length_nil, List.length_reverse, List.length_map, evens_length]; omega)
          case keep => intro _ _; exact ⟨(.tail _ (.head _)), trivial⟩
          case turn2 =>
            intro b a u2 v2 h2 tk2 f t rs acc n' hb' hIs hv2 hrs hlen' F6
            obtain ⟨t', rfl⟩ := hIs
            cases hv2
            clear h1 hP
            ktu_objs
            (try k_fold)
            k_steps
            rename Fr _ _ _ _ => FE
            rename News _ _ _ _ => NE
            (try simp only [List.push_toArray] at NE)
            refine' turn_end (I := I2) FE NE ?hm ?sub ?hI hDI (fun p hp => lI2 p (List.Mem.tail _ hp)) ?hi ?hrs ?hy ?hz
            case hm => k_memK
            case sub => exact fun p hp => by repeat (first | exact hp | refine List.Mem.tail _ ?_)
            case hI => k_allIn
            case hi => repeat (first | exact List.forall_mem_nil _ | (refine List.forall_mem_cons.mpr ⟨by first | exact Nat.le_add_right _ _ | exact Nat.le_refl _, ?_⟩))
            case hrs => exact ints_snoc hrs _ _
            case hy => exact rfl
            case hz =>
              intro z h1 h2
              have h3 := h2
              simp only [List.contains_cons, List.contains_nil, Bool.or_eq_false_iff, beq_eq_false_iff_ne, ne_eq, Bool.or_false] at h3
              simp only [h1, h3, h2, if_false, Bool.false_eq_true]
          case done2 =>
            intro u2 rs n' t h tk hrs F6 N7
            rw [List.nil_append] at hrs
            have hrl : (runLF rrdG (List.map (packG xs) (evens 0 q)).reverse (a0F hg d)).1.length ≤ 1000 := by
              rw [runLF_length _ 1 (fun _ _ => rfl)]
              (try simp only [List.length_reverse])
              omega
            dsimp only [digF] at h1 h2
            dsimp only
            (try k_fold)
            repeat' (first | (k_unfold; (try dsimp only)) | (k_end; wrow_close) | (walk1) | (dsimp only; walk1) | (leave1; walk_say "STEP leave1"; try dsimp only))
            rename Fr _ _ _ _ => F8
            rename News _ _ _ _ => N8
            rename IsRange _ _ _ _ _ _ _ _ => R8
            rw [hm2] at R8
            refine rng_src q (rangeKs 0 q) (tellG goal) (by rfl) F8 N8 R8 (small_one (by decide) (by decide) (by omega) (by omega)) (rangeSize_up rfl) (by omega) (rangeKs_length 0 q) (rangeKs_get0 q) ?elt3 ?fin3
            case elt3 =>
              intro h1' tk1 k t C oC m₂ h tk Q' E' hk hC hx1 F' N' hq
              obtain ⟨hk0, hk1⟩ := mem_rangeKs hk
              dsimp only
              k_steps
              all_goals exact hq _ _
            case fin3 =>
              intro D3 ys3 h tk F' N' o3 hys3
              simp only [LCg.Off1, and_true] at o3
              dsimp only
              repeat' (first | (k_unfold; (try dsimp only)) | (k_end; wrow_close) | ((fail_if_success (with_reducible show wpAny _ _ (call X) _ _ _)); walk1) | (dsimp only; (fail_if_success (with_reducible show wpAny _ _ (call X) _ _ _)); walk1) | (leave1; walk_say "STEP leave1"; try dsimp only))
              all_goals (first | exact absurd h2 (by assumption) | exact absurd h1 (by assumption) | skip)
              rename Fr _ _ _ _ => FE
              rename News _ _ _ _ => NE
              refine' unr_end (I := I) FE NE ((L' + 1 + 1, _) :: L1) ?e1 ?e2 ?e3 ?e4 ⟨⟨.tail _ w0, trivial⟩, _, ⟨hP, _, dC5⟩, rfl, ?e8⟩
              case e1 => k_allIn
              case e2 => exact List.forall_mem_cons.mpr ⟨by k_memK, fun p hp => by repeat (first | exact hp | refine List.Mem.tail _ ?_)⟩
              case e3 => exact low_cons hcI lI1
              case e4 => repeat (first | exact List.forall_mem_nil _ | (refine List.forall_mem_cons.mpr ⟨by first | exact Nat.le_add_right _ _ | exact Nat.le_refl _, ?_⟩))
              case e8 =>
                intro z h2
                have h3 := h2
                simp only [List.contains_cons, List.contains_nil, Bool.or_eq_false_iff, beq_eq_false_iff_ne, ne_eq, Bool.or_false] at h3
                have e1 := beq_eq_false_iff_ne.mpr h3.2.2.2.2.1
                have e2 := beq_eq_false_iff_ne.mpr h3.2.2.2.2.2.1
                simp only [h3, h2, if_false, Bool.false_eq_true, List.contains_cons, List.contains_nil, Bool.or_false, e1, e2]
        · skip
          repeat' (first | (k_unfold; (try dsimp only)) | (k_end; wrow_close) | ((fail_if_success (with_reducible show wpAny _ _ (pyIter _) _ _ _)); walk1) | (dsimp only; (fail_if_success (with_reducible show wpAny _ _ (pyIter _) _ _ _)); walk1) | (leave1; walk_say "STEP leave1"; try dsimp only))
          rename Fr _ _ _ _ => F5
          rename News _ _ _ _ => N5
          rename Obj.data _ = Data.cell (some (Value.int goal _)) => dC5
          skip
          have N6 := led_fL N5
          clear N5
          rename (I < _ ∧ L' + 1 + 1 < _ ∧ AllLt _ L1) => hfd
          have hfall := allLt_mem hfd.2.2
          with_unfolding_all refine iter_listTurns (lo := listOf ys1.toArray ys1.length) (vs := ys1) (by rfl) F5 N6 (.tail _ (.tail _ (.tail _ mD1))) (by rfl) (by rfl) ?_
          intro I2 lI2
          have hDI := ltN (lI2 _ (.head _))
          dsimp only at hDI ⊢
          refine loop_LF (Is := IsV) rldG (Str.ofString "a") [Str.ofString "octet", Str.ofString "left"] (List.map (packG xs) (evens 0 q)) 6 (f₀ := a0F hg d) (t₀ := _) (fun _ => 1) (items_vals hys1) (fun _ _ _ => rfl) ?cap rfl .nil ?keep ?turn2 ?done2
          case cap => (rw [sum_const]; simp only [List.length_nil, List.length_reverse, List.length_map, evens_length]; omega)
          case keep => intro _ _; exact ⟨(.tail _ (.tail _ (.tail _ mD1))), trivial⟩
          case turn2 =>
            intro b a u2 v2 h2 tk2 f t rs acc n' hb' hIs hv2 hrs hlen' F6
            obtain ⟨t', rfl⟩ := hIs
            cases hv2
            clear h1 hP
            ktu_objs
            (try k_fold)
            k_steps
            rename Fr _ _ _ _ => FE
            rename News _ _ _ _ => NE
            (try simp only [List.push_toArray] at NE)
            refine' turn_end (I := I2) FE NE ?hm ?sub ?hI hDI (fun p hp => lI2 p (List.Mem.tail _ hp)) ?hi ?hrs ?hy ?hz
            case hm => k_memK
            case sub => exact fun p hp => by repeat (first | exact hp | refine List.Mem.tail _ ?_)
            case hI => k_allIn
            case hi => repeat (first | exact List.forall_mem_nil _ | (refine List.forall_mem_cons.mpr ⟨by first | exact Nat.le_add_right _ _ | exact Nat.le_refl _, ?_⟩))
            case hrs => exact ints_snoc hrs _ _
            case hy => exact rfl
            case hz =>
              intro z h1 h2
              have h3 := h2
              simp only [List.contains_cons, List.contains_nil, Bool.or_eq_false_iff, beq_eq_false_iff_ne, ne_eq, Bool.or_false] at h3
              simp only [h1, h3, h2, if_false, Bool.false_eq_true]
          case done2 =>
            intro u2 rs n' t h tk hrs F6 N7
            rw [List.nil_append] at hrs
            have hrl : (runLF rldG (List.map (packG xs) (evens 0 q)) (a0F hg d)).1.length ≤ 1000 := by
              rw [runLF_length _ 1 (fun _ _ => rfl)]
              (try simp only [List.length_reverse])
              omega
            dsimp only [digF] at h1 h2
            dsimp only
            (try k_fold)
            repeat' (first | (k_unfold; (try dsimp only)) | (k_end; wrow_close) | (walk1) | (dsimp only; walk1) | (leave1; walk_say "STEP leave1"; try dsimp only))
            rename Fr _ _ _ _ => F8
            rename News _ _ _ _ => N8
            rename IsRange _ _ _ _ _ _ _ _ => R8
            rw [hm2] at R8
            refine rng_src q (rangeKs 0 q) (tellG goal) (by rfl) F8 N8 R8 (small_one (by decide) (by decide) (by omega) (by omega)) (rangeSize_up rfl) (by omega) (rangeKs_length 0 q) (rangeKs_get0 q) ?elt3 ?fin3
            case elt3 =>
              intro h1' tk1 k t C oC m₂ h tk Q' E' hk hC hx1 F' N' hq
              obtain ⟨hk0, hk1⟩ := mem_rangeKs hk
              dsimp only
              k_steps
              all_goals exact hq _ _
            case fin3 =>
              intro D3 ys3 h tk F' N' o3 hys3
              simp only [LCg.Off1, and_true] at o3
              dsimp only
              repeat' (first | (k_unfold; (try dsimp only)) | (k_end; wrow_close) | ((fail_if_success (with_reducible show wpAny _ _ (call X) _ _ _)); walk1) | (dsimp only; (fail_if_success (with_reducible show wpAny _ _ (call X) _ _ _)); walk1) | (leave1; walk_say "STEP leave1"; try dsimp only))
              all_goals (first | exact absurd h2 (by assumption) | exact absurd h1 (by assumption) | skip)
              rename Fr _ _ _ _ => FE
              rename News _ _ _ _ => NE
              refine' unr_end (I := I) FE NE ((L' + 1 + 1, _) :: L1) ?e1 ?e2 ?e3 ?e4 ⟨⟨.tail _ w0, trivial⟩, _, ⟨hP, _, dC5⟩, rfl, ?e8⟩
              case e1 => k_allIn
              case e2 => exact List.forall_mem_cons.mpr ⟨by k_memK, fun p hp => by repeat (first | exact hp | refine List.Mem.tail _ ?_)⟩
              case e3 => exact low_cons hcI lI1
              case e4 => repeat (first | exact List.forall_mem_nil _ | (refine List.forall_mem_cons.mpr ⟨by first | exact Nat.le_add_right _ _ | exact Nat.le_refl _, ?_⟩))
              case e8 =>
                intro z h2
                have h3 := h2
                simp only [List.contains_cons, List.contains_nil, Bool.or_eq_false_iff, beq_eq_false_iff_ne, ne_eq, Bool.or_false] at h3
                have e1 := beq_eq_false_iff_ne.mpr h3.2.2.2.2.1
                have e2 := beq_eq_false_iff_ne.mpr h3.2.2.2.2.2.1
                simp only [h3, h2, if_false, Bool.false_eq_true, List.contains_cons, List.contains_nil, Bool.or_false, e1, e2]
      case done =>
        rintro o u h tk ⟨_, _⟩ F' N'
        dsimp only
        (try k_fold)
        k_steps
        exact does_bool hret (by k_asm) (by k_asm) (fun p hp => .tail _ (mn p hp)) rfl
theorem and_shift : ∀ (k : Nat) (x y : Int), Builtin.bitAnd x (y * 2 ^ k) = Builtin.bitAnd (x / 2 ^ k) y * 2 ^ k
  | 0, x, y => by rw [Int.pow_zero, Int.mul_one, Int.mul_one, Int.ediv_one]
  | k + 1, x, y => by
    have e : y * 2 ^ (k + 1) = 2 * (y * 2 ^ k) := by rw [Int.pow_succ, ← Int.mul_assoc, Int.mul_comm]
    have e1 : y * 2 ^ (k + 1) / 2 = y * 2 ^ k := by rw [e]; omega
    have e2 : ¬ y * 2 ^ (k + 1) % 2 = 1 := by rw [e]; omega
    rw [kbt_halves, e1, and_shift k (x / 2) y, if_neg (fun q => e2 q.2), Int.pow_succ, Int.mul_comm (2 ^ k) 2, Int.ediv_ediv_of_nonneg (by decide), Int.add_zero, Int.mul_left_comm]
theorem or_dig (x y : Int) (h0 : 0 ≤ x) (h1 : x < 16) : Builtin.bitOr x (y * 2 ^ Int.toNat 4) = x + 16 * y := by
  rw [or_disj (Int.toNat 4) x y h0 h1, show (2 : Int) ^ Int.toNat 4 = 16 from rfl, Int.mul_comm]
theorem or_dig' (x y : Int) (h0 : 0 ≤ x) (h1 : x < 16) : Builtin.bitOr (y * 2 ^ Int.toNat 4) x = x + 16 * y := by rw [bitOr_comm, or_dig x y h0 h1]
theorem and_240 (x : Int) : Builtin.bitAnd x 240 = (x / 16 % 16) * 2 ^ Int.toNat 4 := by
  have h := and_shift 4 x 15
  rw [bitAnd_m4] at h
  exact h
theorem fdiv_16 (x : Int) : x.fdiv (2 ^ Int.toNat 4) = x / 16 := Int.fdiv_eq_ediv_of_nonneg _ (by decide)
theorem rld_eq {e h l u : Int} (e0 : 0 ≤ e) (e1 : e < 16) (h0 : 0 ≤ h) (h1 : h < 16) (l0 : 0 ≤ l) (l1 : l < 16) (u0 : 0 ≤ u) (u1 : u < 16) : rldA (e + 16 * h) (l + 16 * u) = u + 16 * h ∧ rldV (e + 16 * h) (l + 16 * u) = e + 16 * l := by
  unfold rldA rldV
  rw [and_240, fdiv_16, bitAnd_m4, bitAnd_m4, or_dig' _ _ (by omega) (by omega), or_dig' _ _ (by omega) (by omega)]
  omega
theorem rrd_eq {e h l u : Int} (e0 : 0 ≤ e) (e1 : e < 16) (h0 : 0 ≤ h) (h1 : h < 16) (l0 : 0 ≤ l) (l1 : l < 16) (u0 : 0 ≤ u) (u1 : u < 16) : rrdA (e + 16 * h) (l + 16 * u) = l + 16 * h ∧ rrdV (e + 16 * h) (l + 16 * u) = u + 16 * e := by
  unfold rrdA rrdV
  rw [and_240, fdiv_16, bitAnd_m4, bitAnd_m4, or_dig' _ _ (by omega) (by omega), or_dig' _ _ (by omega) (by omega)]
  omega
noncomputable def Digs (xs : List Int) : Prop := ∀ x ∈ xs, 0 ≤ x ∧ x < 10
theorem digs_cons {a : Int} {r : List Int} : Digs (a :: r) ↔ (0 ≤ a ∧ a < 10) ∧ Digs r := by
  unfold Digs; simp
theorem pack_eq {xs : List Int} (hx : Digs xs) (k : Int) : packG xs k = xs.getD k.toNat 0 + 16 * xs.getD (k + 1).toNat 0 := by
  have h := getD_digit hx k.toNat
  exact or_dig _ _ h.1 (by omega)
theorem pack_shift (a b : Int) (xs : List Int) (k : Int) (h : 0 ≤ k) : packG (a :: b :: xs) (k + 2) = packG xs k := by
  unfold packG
  rw [show (k + 2).toNat = k.toNat + 1 + 1 by omega, show (k + 2 + 1).toNat = (k + 1).toNat + 1 + 1 by omega, List.getD_cons_succ, List.getD_cons_succ, List.getD_cons_succ, List.getD_cons_succ]
theorem evens_shift (F : Int → Int) : ∀ (q : Nat) (i : Int), (evens (i + 2) q).map F = (evens i q).map fun k => F (k + 2)
  | 0, _ => rfl
  | q + 1, i => by simp only [evens, List.map_cons, evens_shift F q (i + 2)]
theorem evens_congr {F G : Int → Int} (q : Nat) (h : ∀ k, 0 ≤ k → F k = G k) : (evens 0 q).map F = (evens 0 q).map G :=
  List.map_congr_left fun k hk => h k (evens_mem q 0 k hk).1
theorem pack_cons (a b : Int) (xs : List Int) (q : Nat) : (evens 0 (q + 1)).map (packG (a :: b :: xs)) = packG (a :: b :: xs) 0 :: (evens 0 q).map (packG xs) := by
  show packG (a :: b :: xs) 0 :: (evens (0 + 2) q).map _ = _
  rw [evens_shift, evens_congr q fun k hk => pack_shift a b xs k hk]
/-- digits led to the left: each pair takes the digit that came, and the list is one longer -/
theorem rld_run : ∀ (q : Nat) (xs : List Int) (e h : Int), xs.length = 2 * q → Digs xs → 0 ≤ e → e < 10 → 0 ≤ h → h < 16 →
    runLF rldG ((evens 0 q).map (packG xs)) (e + 16 * h) = ((evens 0 q).map (packG (e :: xs)), (e :: xs).getD (2 * q) 0 + 16 * h)
  | 0, xs, e, h, hl, _, _, _, _, _ => by
    have ex := List.length_eq_zero_iff.mp hl
    subst ex
    rfl
  | q + 1, xs, e, h, hl, hx, e0, e1, h0, h1 => by
    match xs, hl with
    | [], hl => simp at hl
    | [_], hl => simp at hl; omega
    | l :: u :: r, hl =>
    obtain ⟨⟨l0, l1⟩, hx2⟩ := digs_cons.mp hx
    obtain ⟨⟨u0, u1⟩, hr⟩ := digs_cons.mp hx2
    have hrl : r.length = 2 * q := by simp only [List.length_cons] at hl; omega
    have ih := rld_run q r u h hrl hr u0 u1 h0 h1
    have hp : packG (l :: u :: r) 0 = l + 16 * u := pack_eq hx 0
    have hp2 : packG (e :: l :: u :: r) 0 = e + 16 * l := pack_eq (digs_cons.mpr ⟨⟨e0, e1⟩, hx⟩) 0
    obtain ⟨ra, rv⟩ := rld_eq (e := e) (h := h) (l := l) (u := u) e0 (by omega) h0 h1 l0 (by omega) u0 (by omega)
    have e2 : (evens 0 (q + 1)).map (packG (e :: l :: u :: r)) = (e + 16 * l) :: (evens 0 q).map (packG (u :: r)) := by rw [pack_cons, hp2]
    rw [pack_cons, hp, e2]
    show ([rldV (e + 16 * h) (l + 16 * u)] ++ (runLF rldG ((evens 0 q).map (packG r)) (rldA (e + 16 * h) (l + 16 * u))).1, (runLF rldG ((evens 0 q).map (packG r)) (rldA (e + 16 * h) (l + 16 * u))).2) = _
    rw [ra, rv, ih]
    rfl
theorem runLF_append {β : Type} (g : β → Int → List Int × Int) : ∀ (a b : List β) (f : Int), runLF g (a ++ b) f = ((runLF g a f).1 ++ (runLF g b (runLF g a f).2).1, (runLF g b (runLF g a f).2).2)
  | [], b, f => rfl
  | x :: a, b, f => by
    rw [List.cons_append]
    show ((g x f).1 ++ (runLF g (a ++ b) (g x f).2).1, (runLF g (a ++ b) (g x f).2).2) = (((g x f).1 ++ (runLF g a (g x f).2).1) ++ (runLF g b (runLF g a (g x f).2).2).1, (runLF g b (runLF g a (g x f).2).2).2)
    rw [runLF_append g a b, List.append_assoc]
/-- digits led to the right, the highest first -/
theorem rrd_run : ∀ (q : Nat) (xs : List Int) (e h : Int), xs.length = 2 * q → Digs xs → 0 ≤ e → e < 10 → 0 ≤ h → h < 16 →
    (runLF rrdG ((evens 0 q).map (packG xs)).reverse (e + 16 * h)).1.reverse = (evens 0 q).map (fun k => packG (xs ++ [e]) (k + 1)) ∧
    (runLF rrdG ((evens 0 q).map (packG xs)).reverse (e + 16 * h)).2 = (xs ++ [e]).getD 0 0 + 16 * h
  | 0, xs, e, h, hl, _, _, _, _, _ => by
    have ex := List.length_eq_zero_iff.mp hl
    subst ex
    exact ⟨rfl, rfl⟩
  | q + 1, xs, e, h, hl, hx, e0, e1, h0, h1 => by
    match xs, hl with
    | [], hl => simp at hl
    | [_], hl => simp at hl; omega
    | l :: u :: r, hl =>
    obtain ⟨⟨l0, l1⟩, hx2⟩ := digs_cons.mp hx
    obtain ⟨⟨u0, u1⟩, hr⟩ := digs_cons.mp hx2
    have hrl : r.length = 2 * q := by simp only [List.length_cons] at hl; omega
    obtain ⟨i1, i2⟩ := rrd_run q r e h hrl hr e0 e1 h0 h1
    have hp : packG (l :: u :: r) 0 = l + 16 * u := pack_eq hx 0
    have hde : Digs (r ++ [e]) := by
      intro x hx'
      rcases List.mem_append.mp hx' with w | w
      · exact hr x w
      · rw [List.mem_singleton.mp w]; exact ⟨e0, e1⟩
    have hd := getD_digit hde 0
    have hp2 : packG (u :: (r ++ [e])) 0 = u + 16 * (r ++ [e]).getD 0 0 := pack_eq (digs_cons.mpr ⟨⟨u0, u1⟩, hde⟩) 0
    rw [pack_cons, hp, List.reverse_cons, runLF_append, i2]
    obtain ⟨ra, rv⟩ := rrd_eq (e := (r ++ [e]).getD 0 0) (h := h) (l := l) (u := u) hd.1 (by omega) h0 h1 l0 (by omega) u0 (by omega)
    have e2 : (evens 0 (q + 1)).map (fun k => packG (l :: u :: r ++ [e]) (k + 1)) = (u + 16 * (r ++ [e]).getD 0 0) :: (evens 0 q).map (fun k => packG (r ++ [e]) (k + 1)) := by
      show packG (l :: u :: (r ++ [e])) (0 + 1) :: (evens (0 + 2) q).map _ = _
      rw [evens_shift, ← hp2]
      have e3 : (evens 0 q).map (fun k => packG (l :: u :: (r ++ [e])) (k + 2 + 1)) = (evens 0 q).map (fun k => packG (r ++ [e]) (k + 1)) := evens_congr q fun k hk => by
        show packG (l :: u :: (r ++ [e])) (k + 2 + 1) = packG (r ++ [e]) (k + 1)
        rw [show k + 2 + 1 = k + 1 + 2 by omega, pack_shift _ _ _ _ (by omega)]
      exact congrArg (packG (u :: (r ++ [e])) 0 :: ·) e3
    rw [e2]
    show ((_ ++ [rrdV ((r ++ [e]).getD 0 0 + 16 * h) (l + 16 * u)]).reverse = _) ∧ rrdA ((r ++ [e]).getD 0 0 + 16 * h) (l + 16 * u) = _
    rw [ra, rv, List.reverse_append, i1]
    exact ⟨rfl, rfl⟩
noncomputable def dval : List Int → Int
  | [] => 0
  | x :: r => x + 10 * dval r
theorem pow10_pos (n : Nat) : (0 : Int) < 10 ^ n := Int.pow_pos (by decide)
theorem pd_nat (n : Nat) : pd ((n : Nat) : Int) = 10 ^ n := by rw [pd_def, Int.toNat_natCast]
theorem enum_dval : ∀ (xs : List Int) (k : Nat), ((enumFrom k xs).map fun b => b.2 * pd b.1).sum = 10 ^ k * dval xs
  | [], k => by simp [enumFrom, dval]
  | x :: r, k => by
    have ih := enum_dval r (k + 1)
    simp only [enumFrom, List.map_cons, List.sum_cons, dval]
    rw [ih, pd_nat, Int.pow_succ, Int.mul_add, Int.mul_assoc, Int.mul_comm x]
theorem num_dval (xs : List Int) : numF xs = dval xs := by
  have h := enum_dval xs 0
  rw [Int.pow_zero, Int.one_mul] at h
  exact h
theorem dval_range : ∀ (xs : List Int), Digs xs → 0 ≤ dval xs ∧ dval xs < 10 ^ xs.length
  | [], _ => by simp [dval]
  | x :: r, h => by
    obtain ⟨hx, hr⟩ := digs_cons.mp h
    have ih := dval_range r hr
    rw [List.length_cons, Int.pow_succ]
    simp only [dval]
    omega
theorem dval_digit : ∀ (xs : List Int) (i : Nat), Digs xs → dval xs / 10 ^ i % 10 = xs.getD i 0
  | [], i, _ => by simp [dval]
  | x :: r, 0, h => by
    obtain ⟨hx, _⟩ := digs_cons.mp h
    rw [Int.pow_zero, Int.ediv_one]
    show (x + 10 * dval r) % 10 = x
    omega
  | x :: r, i + 1, h => by
    obtain ⟨hx, hr⟩ := digs_cons.mp h
    have ih := dval_digit r i hr
    rw [List.getD_cons_succ, ← ih, Int.pow_succ, Int.mul_comm _ 10, ← Int.ediv_ediv_of_nonneg (by decide)]
    congr 2
    show (x + 10 * dval r) / 10 = dval r
    omega
theorem dval_append : ∀ (a b : List Int), dval (a ++ b) = dval a + 10 ^ a.length * dval b
  | [], b => by simp [dval]
  | x :: r, b => by
    rw [List.cons_append, show dval (x :: (r ++ b)) = x + 10 * dval (r ++ b) from rfl, dval_append r b, show dval (x :: r) = x + 10 * dval r from rfl, List.length_cons, Int.pow_succ, Int.mul_comm _ 10, Int.mul_assoc]
    omega
theorem digit_at (g : Int) (i : Nat) : (g.fdiv (pd ((i : Nat) : Int))).fmod 10 = g / 10 ^ i % 10 := by
  rw [pd_nat, Int.fdiv_eq_ediv_of_nonneg _ (Int.le_of_lt (pow10_pos i)), Int.fmod_eq_emod_of_nonneg _ (by decide)]
/-- what is told of a number whose digits stand from the place on -/
theorem tell_from (ds : List Int) (j : Nat) (hd : Digs ds) (goal : Int) (hg : ∀ i : Nat, goal / 10 ^ i % 10 = ds.getD (i + j) 0) : ∀ (q : Nat), tellF goal q = (evens 0 q).map fun k => packG ds (k + (j : Int)) := by
  intro q
  apply List.ext_getElem?
  intro i
  by_cases hi : i < q
  · have e1 : (rangeKs 0 q)[i]? = some (i : Int) := by simp [rangeKs, hi]
    rw [List.getElem?_map, List.getElem?_map, e1, evens_get q 0 i hi]
    simp only [Option.map_some, Option.some.injEq]
    unfold tellG packG
    have f1 := digit_at goal (2 * i)
    have f2 := digit_at goal (2 * i + 1)
    rw [hg] at f1 f2
    rw [show (2 * (i : Int)) = ((2 * i : Nat) : Int) by omega, show (((2 * i : Nat) : Int) + 1) = ((2 * i + 1 : Nat) : Int) by omega, f1, f2,
      show (0 + (i : Int) * 2 + (j : Int)).toNat = 2 * i + j by omega, show (0 + (i : Int) * 2 + (j : Int) + 1).toNat = 2 * i + 1 + j by omega]
  · rw [List.getElem?_eq_none (by rw [List.length_map, rangeKs_length]; omega), List.getElem?_eq_none (by rw [List.length_map, evens_length]; omega)]
theorem a0_eq {h d : Int} (d0 : 0 ≤ d) (d1 : d < 10) : a0F h d = d + 16 * h := or_dig' d h d0 (by omega)
theorem digits_gL (xs : List Int) (d hg : Int) (q : Nat) (hl : xs.length = 2 * q) (hq0 : 0 < q) (hq : q ≤ 6) (hx : ∀ x ∈ xs, 0 ≤ x ∧ x < 10) (hd0 : 0 ≤ d) (hd1 : d < 10) (hg0 : 0 ≤ hg) (hg1 : hg < 16) :
    DigR xs q d hg true (numF xs * 10 + d) ((numF xs).fdiv (pd (((xs.length : Nat) : Int) - 1))) := by
  have hr := rld_run q xs d hg hl hx hd0 hd1 hg0 hg1
  have hds : Digs (d :: xs) := digs_cons.mpr ⟨⟨hd0, hd1⟩, hx⟩
  have htop : (numF xs).fdiv (pd (((xs.length : Nat) : Int) - 1)) = xs.getD (2 * q - 1) 0 := by
    have hrg := dval_range xs hx
    have hdg := dval_digit xs (2 * q - 1) hx
    have hp := pow10_pos (2 * q - 1)
    have e : (10 : Int) ^ xs.length = 10 ^ (2 * q - 1) * 10 := by rw [← Int.pow_succ]; congr 1; omega
    rw [e] at hrg
    rw [num_dval, hl, show (((2 * q : Nat) : Int) - 1) = ((2 * q - 1 : Nat) : Int) by omega, pd_nat, Int.fdiv_eq_ediv_of_nonneg _ (Int.le_of_lt hp), ← hdg]
    have h1 : 0 ≤ dval xs / 10 ^ (2 * q - 1) := Int.ediv_nonneg hrg.1 (Int.le_of_lt hp)
    have h2 : dval xs / 10 ^ (2 * q - 1) < 10 := Int.ediv_lt_of_lt_mul hp (by rw [Int.mul_comm]; exact hrg.2)
    omega
  refine ⟨?_, ?_⟩
  · show (runLF rldG _ (a0F hg d)).1 = _
    rw [a0_eq hd0 hd1, hr]
    have ht := tell_from (d :: xs) 0 hds (numF xs * 10 + d) (fun i => by
      rw [Nat.add_zero, ← dval_digit (d :: xs) i hds]
      congr 2
      rw [num_dval]
      show dval xs * 10 + d = d + 10 * dval xs
      omega) q
    rw [ht]
    exact evens_congr q fun k hk => by rw [show k + ((0 : Nat) : Int) = k by omega]
  · show (runLF rldG _ (a0F hg d)).2 = _
    rw [a0_eq hd0 hd1, hr, htop]
    have hdt := getD_digit hx (2 * q - 1)
    rw [a0_eq hdt.1 hdt.2]
    show (d :: xs).getD (2 * q) 0 + 16 * hg = _
    rw [show 2 * q = (2 * q - 1) + 1 by omega, List.getD_cons_succ]
    rfl
theorem digits_gR (xs : List Int) (d hg : Int) (q : Nat) (hl : xs.length = 2 * q) (hq0 : 0 < q) (hq : q ≤ 6) (hx : ∀ x ∈ xs, 0 ≤ x ∧ x < 10) (hd0 : 0 ≤ d) (hd1 : d < 10) (hg0 : 0 ≤ hg) (hg1 : hg < 16) :
    DigR xs q d hg false ((d * pd ((xs.length : Nat) : Int) + numF xs).fdiv 10) ((numF xs).fmod 10) := by
  obtain ⟨r1, r2⟩ := rrd_run q xs d hg hl hx hd0 hd1 hg0 hg1
  have hds : Digs (xs ++ [d]) := by
    intro x hx'
    rcases List.mem_append.mp hx' with w | w
    · exact hx x w
    · rw [List.mem_singleton.mp w]; exact ⟨hd0, hd1⟩
  have hv : d * pd ((xs.length : Nat) : Int) + numF xs = dval (xs ++ [d]) := by
    rw [dval_append, num_dval, pd_nat, show dval [d] = d by simp [dval], Int.mul_comm d]
    omega
  refine ⟨?_, ?_⟩
  · show (runLF rrdG _ (a0F hg d)).1.reverse = _
    rw [a0_eq hd0 hd1, r1]
    exact (tell_from (xs ++ [d]) 1 hds _ (fun i => by
      rw [hv, Int.fdiv_eq_ediv_of_nonneg _ (by decide), Int.ediv_ediv_of_nonneg (by decide), Int.mul_comm, ← Int.pow_succ]
      exact dval_digit (xs ++ [d]) (i + 1) hds) q).symm
  · show (runLF rrdG _ (a0F hg d)).2 = _
    have hlow : (numF xs).fmod 10 = xs.getD 0 0 := by
      have w := dval_digit xs 0 hx
      rw [Int.pow_zero, Int.ediv_one] at w
      rw [num_dval, Int.fmod_eq_emod_of_nonneg _ (by decide), w]
    have hd2 := getD_digit hx 0
    rw [a0_eq hd0 hd1, r2, hlow, a0_eq hd2.1 hd2.2]
    cases xs with
    | nil => simp at hl; omega
    | cons x r => rfl

/- part 12 -/

theorem slot_head {d : Addr} {rest : Led} (h : ∀ p ∈ rest, p.1 ≠ d) : Slot d (fun o => (d, o) :: rest) := ⟨fun _ => .head _, fun _ _ => .head h⟩
theorem stands_in {d c : Addr} {oc : Obj} {rest : Led} (h : (c, oc) ∈ rest) : Stands c oc (fun o => (d, o) :: rest) := fun _ => .tail _ h
theorem take_len (l : List Int) : (List.take 30 l).length ≤ 30 := by rw [List.length_take]; omega
theorem octets2_does (w : World) (g : Obj → Led) (d c : Addr) (us : List Value) (nc : Nat) (ns : List Int) (k : Int) (t : Tok) (n : Nat) (M : Int) (tm : Tok) (hs : Slot d g) (hc : Stands c (listOf us.toArray nc) g) (hi : IntsAre us ns) (hlen : ns.length ≤ 30) (hk0 : 0 ≤ k) (hk1 : k ≤ 90) (hm0 : 0 ≤ M) (hm1 : M ≤ 6) :
    Does w 3 119 (g (feedO c k t n)) [.ref d, .int M tm] (OutO g c k M.toNat) := by
  obtain ⟨m, rfl⟩ : ∃ m : Nat, M = (m : Int) := ⟨M.toNat, by omega⟩
  exact octets_does w g d c us nc ns k t n m tm hs hc hi hlen hk0 hk1 (by omega)

section
open LCg
variable {prog : Program} {w : World} {A : Around} {h₀ : Heap} {L : Addr} {m : Str → Option Value} {env : Env} {elt : Expr} {x : Str} {scope : Scope} {cl : List (Str × Addr)} {s : Shared} {P : Nat → Value → Prop} {Fin : List Value → Led → Prop}
theorem off3_turn {g : Obj → Led} {d I C D : Addr} (hs : Slot d g) {o o' : Obj} (h : Off3 I C D (g o)) : Off3 I C D (g o') :=
  Off3.of (slot_all hs (R := fun a => a ≠ I ∧ a ≠ C ∧ a ≠ D) (o₀ := o) h.mem o')
/-- a comprehension whose element takes the next digit of the feed -/
theorem comp_next (g : Obj → Led) (d c : Addr) (hs : Slot d g) (N : Nat) (k₀ : Int) (t₀ : Tok) (n₀ : Nat) (hk0 : 0 ≤ k₀)
    (turn : ∀ (k : Int) (t : Tok) (n : Nat) I oI C oC D m₂ ys h tk (E' Q' : Value → Shared → Prop), 0 ≤ k → k < k₀ + N → NsObj oC m₂ → Fr h₀ L h m → News h₀ L h ((I, oI) :: (C, oC) :: (D, lst ys) :: g (feedO c k t n)) → Off3 I C D (g (feedO c k t n)) → ((@Ne Nat I C) ∧ (@Ne Nat I D) ∧ (@Ne Nat C D)) →
      (∀ x' t' t'' n' h' tk', 0 ≤ x' → x' < 10 → Fr h₀ L h' m → News h₀ L h' ((I, oI) :: (C, oC) :: (D, lst ys) :: g (feedO c (k + 1) t'' n')) → Q' (.int x' t') { s with heap := h', toks := tk' }) →
      wpAny (model prog w) A (eval elt (compEnvC scope cl C env)) Q' E' { s with heap := h, toks := tk })
    (fin : ∀ ys zs t n, IntsAre ys zs → zs.length = N → (∀ z ∈ zs, 0 ≤ z ∧ z < 10) → Fin ys (g (feedO c (k₀ + N) t n))) :
    CompRest prog w A h₀ L m env elt x scope cl s (fun _ => True) P Fin N 0 [] (g (feedO c k₀ t₀ n₀)) := by
  have key : ∀ (j i : Nat) (ys : List Value) (zs : List Int) (k : Int) (t : Tok) (n : Nat), i + j = N → k = k₀ + i → IntsAre ys zs → zs.length = i → (∀ z ∈ zs, 0 ≤ z ∧ z < 10) →
      CompRest prog w A h₀ L m env elt x scope cl s (fun _ => True) P Fin j i ys (g (feedO c k t n)) := by
    intro j
    induction j with
    | zero =>
      intro i ys zs k t n hi hk hy hz hd
      have e : i = N := by omega
      subst e; subst hk
      exact CompRest.zero (fin ys zs t n hy hz hd)
    | succ j ih =>
      intro i ys zs k t n hi hk hy hz hd
      refine CompRest.succ ?_
      intro v I oI C oC D m₂ h tk E' hv hC hx F Nn off ne
      refine turn k t n I oI C oC D m₂ ys h tk E' _ (by omega) (by omega) hC F Nn off ne ?_
      intro x' t' t'' n' h' tk' h0 h1 F' N'
      refine ⟨h', tk', g (feedO c (k + 1) t'' n'), rfl, F', N', off3_turn hs off, trivial, ?_⟩
      refine ih (i + 1) (ys ++ [.int x' t']) (zs ++ [x']) (k + 1) t'' n' (by omega) (by omega) (ints_snoc hy x' t') (by rw [List.length_append, hz]; rfl) ?_
      intro z hz'
      rcases List.mem_append.mp hz' with q | q
      · exact hd z q
      · rw [List.mem_singleton.mp q]; exact ⟨h0, h1⟩
  exact key N 0 [] [] k₀ t₀ n₀ (by omega) (by omega) .nil rfl (fun z h => nomatch h)
theorem comp_next3 {e1 e2 e3 : Addr × Obj} {d c : Addr} {rest : Led} (hs : Slot d (fun o => e1 :: e2 :: e3 :: (d, o) :: rest)) {N : Nat} {k₀ : Int} {t₀ : Tok} {n₀ : Nat} (hk0 : 0 ≤ k₀)
    (turn : ∀ (k : Int) (t : Tok) (n : Nat) I oI C oC D m₂ ys h tk (E' Q' : Value → Shared → Prop), 0 ≤ k → k < k₀ + N → NsObj oC m₂ → Fr h₀ L h m → News h₀ L h ((I, oI) :: (C, oC) :: (D, lst ys) :: e1 :: e2 :: e3 :: (d, feedO c k t n) :: rest) →
      Slot d (fun o => (I, oI) :: (C, oC) :: (D, lst ys) :: e1 :: e2 :: e3 :: (d, o) :: rest) →
      (∀ x' t' t'' n' h' tk', 0 ≤ x' → x' < 10 → Fr h₀ L h' m → News h₀ L h' ((I, oI) :: (C, oC) :: (D, lst ys) :: e1 :: e2 :: e3 :: (d, feedO c (k + 1) t'' n') :: rest) → Q' (.int x' t') { s with heap := h', toks := tk' }) →
      wpAny (model prog w) A (eval elt (compEnvC scope cl C env)) Q' E' { s with heap := h, toks := tk })
    (fin : Slot d (fun o => e1 :: e2 :: e3 :: (d, o) :: rest) → ∀ ys zs t n, IntsAre ys zs → zs.length = N → (∀ z ∈ zs, 0 ≤ z ∧ z < 10) → Fin ys (e1 :: e2 :: e3 :: (d, feedO c (k₀ + N) t n) :: rest)) :
    CompRest prog w A h₀ L m env elt x scope cl s (fun _ => True) P Fin N 0 [] (e1 :: e2 :: e3 :: (d, feedO c k₀ t₀ n₀) :: rest) :=
  comp_next (fun o => e1 :: e2 :: e3 :: (d, o) :: rest) d c hs N k₀ t₀ n₀ hk0
    (fun k t n I oI C oC D m₂ ys h tk E' Q' h0 h1 hC F' N' off ne hq => turn k t n I oI C oC D m₂ ys h tk E' Q' h0 h1 hC F' N'
      (slot_push (slot_push (slot_push hs (Ne.symm off.2.2.2.1.2.2)) (Ne.symm off.2.2.2.1.2.1)) (Ne.symm off.2.2.2.1.1)) hq) (fin hs)
end

theorem law_holds : PySem.Challenge.rw_sa0630_01.Holds := hd (by
  k_go0
  (all_goals try k_fold)
  repeat' (first | (k_unfold; (try dsimp only)) | (k_end; wrow_close) | ((fail_if_success (with_reducible show wpAny _ _ (call (Value.ref 112) _) _ _ _)); walk1) | (dsimp only; (fail_if_success (with_reducible show wpAny _ _ (call (Value.ref 112) _) _ _ _)); walk1) | (leave1; walk_say "STEP leave1"; try dsimp only))
  rename IntsAre _ (List.take 30 _) => hI
  rename Fr _ _ _ _ => F2
  rename News _ _ _ _ => N2
  k_dflt (refine' Does.use (next_does _ (fun o => (_, o) :: _) _ _ _ 0 _ _ _ _ _ _ ?hs ?hc hI (take_len _) ?ka ?kb ?ke ?kf) ?k1 F2 ?k3 N2 ?k5 ?kK ?kd ?ku ?_; (case hs => exact slot_head (List.forall_mem_cons.mpr ⟨by k_ne, List.forall_mem_cons.mpr ⟨by k_ne, List.forall_mem_nil _⟩⟩)); (case hc => exact stands_in (.head _)); (case ka => omega); (case kb => omega); (case ke => decide); (case kf => decide); (case k1 => k_asm); (case k3 => k_asm); (case k5 => k_asm); (case kK => first | exact rfl | assumption); (case kd => ktr_room); (case ku => ktr_units))
  clear F2 N2
  intro r9 n9 h9 tk9 F9 N9 O9
  obtain ⟨x, t1, t2, n1, rfl, hx0, hx1, rfl⟩ := O9
  dsimp only at N9 ⊢
  k_sweep
  (try k_fold)
  repeat' (first | (k_unfold; (try dsimp only)) | (k_end; wrow_close) | ((fail_if_success (with_reducible show wpAny _ _ (call (Value.ref 119) _) _ _ _)); walk1) | (dsimp only; (fail_if_success (with_reducible show wpAny _ _ (call (Value.ref 119) _) _ _ _)); walk1) | (leave1; walk_say "STEP leave1"; try dsimp only))
  rename Fr _ _ _ _ => F2
  rename News _ _ _ _ => N2
  k_dflt (refine' Does.use (octets2_does _ (fun o => (_, o) :: _) _ _ _ 0 _ _ _ _ _ _ ?hs ?hc hI (take_len _) ?ka ?kb ?ke ?kf) ?k1 F2 ?k3 N2 ?k5 ?kK ?kd ?ku ?_; (case hs => exact slot_head (List.forall_mem_cons.mpr ⟨by k_ne, List.forall_mem_cons.mpr ⟨by k_ne, List.forall_mem_nil _⟩⟩)); (case hc => exact stands_in (.head _)); (case ka => omega); (case kb => omega); (case ke => omega); (case kf => omega); (case k1 => k_asm); (case k3 => k_asm); (case k5 => k_asm); (case kK => first | exact rfl | assumption); (case kd => ktr_room); (case ku => ktr_units))
  clear F2 N2
  intro r9 n9 h9 tk9 F9 N9 O9
  obtain ⟨A, va, na, xa, t3, n2, rfl, offA, hA, lA, oA, rfl⟩ := O9
  replace offA := offA (feedO 0 0 0 0)
  simp only [LCg.Off1] at offA
  dsimp only at N9 ⊢
  k_sweep
  (try k_fold)
  repeat' (first | (k_unfold; (try dsimp only)) | (k_end; wrow_close) | ((fail_if_success (with_reducible show wpAny _ _ (call (Value.ref 119) _) _ _ _)); walk1) | (dsimp only; (fail_if_success (with_reducible show wpAny _ _ (call (Value.ref 119) _) _ _ _)); walk1) | (leave1; walk_say "STEP leave1"; try dsimp only))
  rename Fr _ _ _ _ => F2
  rename News _ _ _ _ => N2
  k_dflt (refine' Does.use (octets2_does _ (fun o => (_, _) :: (_, o) :: _) _ _ _ 0 _ _ _ _ _ _ ?hs ?hc hI (take_len _) ?ka ?kb ?ke ?kf) ?k1 F2 ?k3 N2 ?k5 ?kK ?kd ?ku ?_; (case hs => exact slot_push (slot_head (List.forall_mem_cons.mpr ⟨by k_ne, List.forall_mem_cons.mpr ⟨by k_ne, List.forall_mem_nil _⟩⟩)) (by k_ne)); (case hc => exact stands_push (stands_in (.head _))); (case ka => omega); (case kb => omega); (case ke => omega); (case kf => omega); (case k1 => k_asm); (case k3 => k_asm); (case k5 => k_asm); (case kK => first | exact rfl | assumption); (case kd => ktr_room); (case ku => ktr_units))
  clear F2 N2
  intro r9 n9 h9 tk9 F9 N9 O9
  obtain ⟨B, vb, nb, xb, t4, n3, rfl, offB, hB, lB, oB, rfl⟩ := O9
  replace offB := offB (feedO 0 0 0 0)
  simp only [LCg.Off1] at offB
  dsimp only at N9 ⊢
  k_sweep
  (try k_fold)
  repeat' (first | (k_unfold; (try dsimp only)) | (k_end; wrow_close) | ((fail_if_success (with_reducible show wpAny _ _ (call (Value.ref 112) _) _ _ _)); walk1) | (dsimp only; (fail_if_success (with_reducible show wpAny _ _ (call (Value.ref 112) _) _ _ _)); walk1) | (leave1; walk_say "STEP leave1"; try dsimp only))
  rename Fr _ _ _ _ => F2
  rename News _ _ _ _ => N2
  k_dflt (refine' Does.use (next_does _ (fun o => (_, _) :: (_, _) :: (_, _) :: (_, o) :: _) _ _ _ 0 _ _ _ _ _ _ ?hs ?hc hI (take_len _) ?ka ?kb ?ke ?kf) ?k1 F2 ?k3 N2 ?k5 ?kK ?kd ?ku ?_; (case hs => exact slot_push (slot_push (slot_push (slot_head (List.forall_mem_cons.mpr ⟨by k_ne, List.forall_mem_cons.mpr ⟨by k_ne, List.forall_mem_nil _⟩⟩)) (by k_ne)) (by k_ne)) (by k_ne)); (case hc => exact stands_push (stands_push (stands_push (stands_in (.head _))))); (case ka => omega); (case kb => omega); (case ke => decide); (case kf => decide); (case k1 => k_asm); (case k3 => k_asm); (case k5 => k_asm); (case kK => first | exact rfl | assumption); (case kd => ktr_room); (case ku => ktr_units))
  clear F2 N2
  intro r9 n9 h9 tk9 F9 N9 O9
  obtain ⟨y, t5, t6, n4, rfl, hy0, hy1, rfl⟩ := O9
  dsimp only at N9 ⊢
  k_sweep
  (try k_fold)
  repeat' (first | (k_unfold; (try dsimp only)) | (k_end; wrow_close) | ((fail_if_success (with_reducible show wpAny _ _ (call (Value.ref 152) _) _ _ _)); walk1) | (dsimp only; (fail_if_success (with_reducible show wpAny _ _ (call (Value.ref 152) _) _ _ _)); walk1) | (leave1; walk_say "STEP leave1"; try dsimp only))
  have e1 : xa.length = xb.length := by omega
  have e2 : 0 < xa.length := by omega
  have e3 : xa.length ≤ 6 := by omega
  have e4 : xb.length ≤ 6 := by omega
  have e5 : y ≤ 1 := by omega
  rename Fr _ _ _ _ => F2
  rename News _ _ _ _ => N2
  k_dflt (refine' Does.useB (sums_does _ _ _ _ va vb na nb xa xb _ _ ?ha ?hb hA hB e1 e2 e3 e4 oA oB hy0 e5 ?g1 ?g2 ?g3) ?k1 F2 ?k3 N2 ?k5 ?kK ?kd ?ku ?_; (case ha => k_mem); (case hb => k_mem); (case g1 => exact fun bl => sums_g1 xa xb _ e1 e2 e3 oA oB hy0 e5 bl); (case g2 => exact fun hev bl => sums_g2 xa xb _ e1 e2 e3 oA oB hy0 e5 hev bl); (case g3 => exact fun hev => sums_g3 xa xb e1 e2 oA oB hev); (case k1 => k_asm); (case k3 => k_asm); (case k5 => k_asm); (case kK => first | exact rfl | assumption); (case kd => ktr_room); (case ku => ktr_units))
  clear F2 N2
  intro h9 tk9 F9 N9
  dsimp only at N9 ⊢
  k_sweep
  (try k_fold)
  repeat' (first | (k_unfold; (try dsimp only)) | (k_end; wrow_close) | ((fail_if_success (with_reducible show wpAny _ _ (call (Value.ref 166) _) _ _ _)); walk1) | (dsimp only; (fail_if_success (with_reducible show wpAny _ _ (call (Value.ref 166) _) _ _ _)); walk1) | (leave1; walk_say "STEP leave1"; try dsimp only))
  rename Fr _ _ _ _ => F2
  rename News _ _ _ _ => N2
  k_dflt (refine' Does.useB (turns_does _ _ _ va na xa _ _ ?ha hA e2 e3 oA hy0 e5 ?g1 ?g2 ?g3 ?g5 ?g7) ?k1 F2 ?k3 N2 ?k5 ?kK ?kd ?ku ?_; (case ha => k_mem); (case g1 => exact turns_g1 xa _ e2 oA hy0 e5); (case g2 => exact turns_g2 xa _ e2 oA hy0 e5); (case g3 => exact turns_g3 xa _ e2 oA hy0 e5); (case g5 => exact turns_g5 xa _ e2 oA hy0 e5); (case g7 => exact turns_g7 xa _ e2 oA hy0 e5); (case k1 => k_asm); (case k3 => k_asm); (case k5 => k_asm); (case kK => first | exact rfl | assumption); (case kd => ktr_room); (case ku => ktr_units))
  clear F2 N2
  intro h9 tk9 F9 N9
  dsimp only at N9 ⊢
  k_sweep
  (try k_fold)
  repeat' (first | (k_unfold; (try dsimp only)) | (k_end; wrow_close) | ((fail_if_success (with_reducible show wpAny _ _ (exec (Stmt.Assign _ (Expr.ListComp _ _ _ _) _) _) _ _ _)); walk1) | (dsimp only; (fail_if_success (with_reducible show wpAny _ _ (exec (Stmt.Assign _ (Expr.ListComp _ _ _ _) _) _) _ _ _)); walk1) | (leave1; walk_say "STEP leave1"; try dsimp only))
  k_dflt (refine LCg.Assign_ListComp_U (F₀ := by k_asm) (by rfl) (by with_unfolding_all rfl) (by with_unfolding_all rfl) (by decide) (by rfl) (by decide) (by rfl) (by rfl) (by rfl) ?_)
  repeat' (first | (k_unfold; (try dsimp only)) | (k_end; wrow_close) | ((fail_if_success (with_reducible show wpAny _ _ (call (Value.type "range") _) _ _ _)); walk1) | (dsimp only; (fail_if_success (with_reducible show wpAny _ _ (call (Value.type "range") _) _ _ _)); walk1) | (leave1; walk_say "STEP leave1"; try dsimp only))
  walk1
  (try dsimp only)
  rename IsRange _ _ _ _ _ _ _ _ => R1
  rename Fr _ _ _ _ => F3
  rename News _ _ _ _ => N3
  refine LCg.CompSrc.range (n := (2 * (1 + x)).toNat) (by rfl) F3 N3 R1 (small_one (by decide) (by decide) (by omega) (by omega)) (rangeSize_up (by omega)) (by rw [sizeLine_eq]; omega) ?_
  intro gH
  refine comp_next3 ?hs (by omega) ?turn ?fin
  case hs => exact slot_push (slot_push (slot_push (slot_head (List.forall_mem_cons.mpr ⟨by k_ne, List.forall_mem_cons.mpr ⟨by k_ne, List.forall_mem_nil _⟩⟩)) (by k_ne)) (by k_ne)) (by k_ne)
  case turn =>
    intro k t n I oI C oC D m₂ ys h tk E' Q' hk0 hk1 hC F4 N4 hs6 hq
    clear N3 offA offB
    dsimp only
    repeat' (first | (k_unfold; (try dsimp only)) | (k_end; wrow_close) | ((fail_if_success (with_reducible show wpAny _ _ (call (Value.ref 112) _) _ _ _)); walk1) | (dsimp only; (fail_if_success (with_reducible show wpAny _ _ (call (Value.ref 112) _) _ _ _)); walk1) | (leave1; walk_say "STEP leave1"; try dsimp only))
    rename Fr _ _ _ _ => F2
    rename News _ _ _ _ => N2
    k_dflt (refine' Does.use (next_does _ (fun o => (_, _) :: (_, _) :: (_, _) :: (_, _) :: (_, _) :: (_, _) :: (_, o) :: _) _ _ _ 0 _ _ _ _ _ _ ?hs ?hc hI (take_len _) ?ka ?kb ?ke ?kf) ?k1 F2 ?k3 N2 ?k5 ?kK ?kd ?ku ?_; (case hs => exact hs6); (case hc => exact stands_push (stands_push (stands_push (stands_push (stands_push (stands_push (stands_in (.head _)))))))); (case ka => omega); (case kb => omega); (case ke => decide); (case kf => decide); (case k1 => k_asm); (case k3 => k_asm); (case k5 => k_asm); (case kK => first | exact rfl | assumption); (case kd => ktr_room); (case ku => ktr_units))
    clear F2 N2
    intro r9 n9 h9 tk9 F9 N9 O9
    obtain ⟨z, t7, t8, n5, rfl, hz0, hz1, rfl⟩ := O9
    exact hq _ _ _ _ _ _ hz0 hz1 F9 N9
  case fin =>
    intro hs3 ys zs t n hys hzl hzd
    clear N3 offA offB
    unfold LCg.FinA
    intro D h tk F4 N4 o4
    simp only [LCg.Off1, and_true] at o4
    dsimp only at N4 ⊢
    repeat' (first | (k_unfold; (try dsimp only)) | (k_end; wrow_close) | ((fail_if_success (with_reducible show wpAny _ _ (call (Value.ref 112) _) _ _ _)); walk1) | (dsimp only; (fail_if_success (with_reducible show wpAny _ _ (call (Value.ref 112) _) _ _ _)); walk1) | (leave1; walk_say "STEP leave1"; try dsimp only))
    rename Fr _ _ _ _ => F2
    rename News _ _ _ _ => N2
    k_dflt (refine' Does.use (next_does _ (fun o => (_, _) :: (_, _) :: (_, _) :: (_, _) :: (_, o) :: _) _ _ _ 0 _ _ _ _ _ _ ?hs ?hc hI (take_len _) ?ka ?kb ?ke ?kf) ?k1 F2 ?k3 N2 ?k5 ?kK ?kd ?ku ?_; (case hs => exact slot_push hs3 (Ne.symm o4.2.2.2.1)); (case hc => exact stands_push (stands_push (stands_push (stands_push (stands_in (.head _)))))); (case ka => omega); (case kb => omega); (case ke => decide); (case kf => decide); (case k1 => k_asm); (case k3 => k_asm); (case k5 => k_asm); (case kK => first | exact rfl | assumption); (case kd => ktr_room); (case ku => ktr_units))
    clear F2 N2
    intro r9 n9 h9 tk9 F9 N9 O9
    obtain ⟨z, t7, t8, n5, rfl, hz0, hz1, rfl⟩ := O9
    dsimp only at N9 ⊢
    k_sweep
    (try k_fold)
    repeat' (first | (k_unfold; (try dsimp only)) | (k_end; wrow_close) | ((fail_if_success (with_reducible show wpAny _ _ (call (Value.ref 112) _) _ _ _)); walk1) | (dsimp only; (fail_if_success (with_reducible show wpAny _ _ (call (Value.ref 112) _) _ _ _)); walk1) | (leave1; walk_say "STEP leave1"; try dsimp only))
    rename Fr _ _ _ _ => F2
    rename News _ _ _ _ => N2
    k_dflt (refine' Does.use (next_does _ (fun o => (_, _) :: (_, _) :: (_, _) :: (_, _) :: (_, o) :: _) _ _ _ 0 _ _ _ _ _ _ ?hs ?hc hI (take_len _) ?ka ?kb ?ke ?kf) ?k1 F2 ?k3 N2 ?k5 ?kK ?kd ?ku ?_; (case hs => exact slot_push hs3 (Ne.symm o4.2.2.2.1)); (case hc => exact stands_push (stands_push (stands_push (stands_push (stands_in (.head _)))))); (case ka => omega); (case kb => omega); (case ke => decide); (case kf => decide); (case k1 => k_asm); (case k3 => k_asm); (case k5 => k_asm); (case kK => first | exact rfl | assumption); (case kd => ktr_room); (case ku => ktr_units))
    clear F2 N2
    intro r9 n9 h9 tk9 F9 N9 O9
    obtain ⟨v, t9, t10, n6, rfl, hv0, hv1, rfl⟩ := O9
    dsimp only at N9 ⊢
    k_sweep
    (try k_fold)
    repeat' (first | (k_unfold; (try dsimp only)) | (k_end; wrow_close) | ((fail_if_success (with_reducible show wpAny _ _ (call (Value.ref 176) _) _ _ _)); walk1) | (dsimp only; (fail_if_success (with_reducible show wpAny _ _ (call (Value.ref 176) _) _ _ _)); walk1) | (leave1; walk_say "STEP leave1"; try dsimp only))
    have e6 : zs.length = 2 * (1 + x).toNat := by omega
    have e7 : 0 < (1 + x).toNat := by omega
    have e8 : (1 + x).toNat ≤ 6 := by omega
    rename Fr _ _ _ _ => F2
    rename News _ _ _ _ => N2
    k_dflt (refine' Does.useB (digits_does _ _ _ ys ys.length zs _ _ _ _ (1 + x).toNat ?ha hys e6 e7 e8 hzd hz0 hz1 hv0 hv1 ?gL ?gR) ?k1 F2 ?k3 N2 ?k5 ?kK ?kd ?ku ?_; (case ha => exact .head _); (case gL => exact digits_gL zs _ _ _ e6 e7 e8 hzd hz0 hz1 hv0 hv1); (case gR => exact digits_gR zs _ _ _ e6 e7 e8 hzd hz0 hz1 hv0 hv1); (case k1 => k_asm); (case k3 => k_asm); (case k5 => k_asm); (case kK => first | exact rfl | assumption); (case kd => ktr_room); (case ku => ktr_units))
    clear F2 N2
    intro h9 tk9 F9 N9
    dsimp only at N9 ⊢
    k_sweep
    (try k_fold)
    repeat' (first | (k_unfold; (try dsimp only)) | (k_end; wrow_close) | (walk1) | (dsimp only; walk1) | (leave1; walk_say "STEP leave1"; try dsimp only)))
end Mine

theorem PySem.Challenge.cw_sa0630_01_holds : PySem.Challenge.rw_sa0630_01.Holds := by
  exact Mine.law_holds
