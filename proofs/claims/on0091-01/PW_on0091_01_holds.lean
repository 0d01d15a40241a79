import PyProof.Rows.All
import Wide.All
import OpenK.AllK
import Wide.FinOn
import PySem.Challenge.RW_on0091_01
set_option Elab.async false
section
open PySem PySem.W PyProof.Rows
namespace Mine
set_option maxRecDepth 100000
set_option maxHeartbeats 8000000
open_top hd for PySem.Challenge.rw_on0091_01
end Mine
end

namespace Mine
theorem cj1 { p q : Prop} (h : p ∧ q) : p := h.1
theorem cj2 {a p q : Prop} (h : a ∧ p ∧ q) : p := h.2.1
theorem cj3 {a b p q : Prop} (h : a ∧ b ∧ p ∧ q) : p := h.2.2.1
theorem cj4 {a b c p q : Prop} (h : a ∧ b ∧ c ∧ p ∧ q) : p := h.2.2.2.1
theorem cj5 {a b c d p q : Prop} (h : a ∧ b ∧ c ∧ d ∧ p ∧ q) : p := h.2.2.2.2.1
theorem cj6 {a b c d e p q : Prop} (h : a ∧ b ∧ c ∧ d ∧ e ∧ p ∧ q) : p := h.2.2.2.2.2.1
theorem cj7 {a b c d e f p q : Prop} (h : a ∧ b ∧ c ∧ d ∧ e ∧ f ∧ p ∧ q) : p := h.2.2.2.2.2.2.1
theorem cj8 {a b c d e f g p q : Prop} (h : a ∧ b ∧ c ∧ d ∧ e ∧ f ∧ g ∧ p ∧ q) : p := h.2.2.2.2.2.2.2.1
theorem cj9 {a b c d e f g h p q : Prop} (h : a ∧ b ∧ c ∧ d ∧ e ∧ f ∧ g ∧ h ∧ p ∧ q) : p := h.2.2.2.2.2.2.2.2.1
theorem cj10 {a b c d e f g h i p q : Prop} (h : a ∧ b ∧ c ∧ d ∧ e ∧ f ∧ g ∧ h ∧ i ∧ p ∧ q) : p := h.2.2.2.2.2.2.2.2.2.1
theorem room0 {d n m k : Nat} (h : d + m < k) (hn : Nat.ble n m = true) : d + n < k := Nat.lt_of_le_of_lt (Nat.add_le_add_left (Nat.le_of_ble_eq_true hn) d) h
theorem room1 {d e n m k : Nat} (h : d + m < k) (hn : Nat.ble (e + n) m = true) : d + e + n < k := by rw [Nat.add_assoc]; exact room0 h hn
theorem room2 {d e f n m k : Nat} (h : d + m < k) (hn : Nat.ble (e + f + n) m = true) : d + e + f + n < k := by rw [Nat.add_assoc, Nat.add_assoc, ← Nat.add_assoc e]; exact room0 h hn
theorem ej2 {a p : Prop} (h : a ∧ p) : p := h.2
theorem ej3 {a b p : Prop} (h : a ∧ b ∧ p) : p := h.2.2
theorem ej4 {a b c p : Prop} (h : a ∧ b ∧ c ∧ p) : p := h.2.2.2
theorem ej5 {a b c d p : Prop} (h : a ∧ b ∧ c ∧ d ∧ p) : p := h.2.2.2.2
theorem ej6 {a b c d e p : Prop} (h : a ∧ b ∧ c ∧ d ∧ e ∧ p) : p := h.2.2.2.2.2
theorem ej7 {a b c d e f p : Prop} (h : a ∧ b ∧ c ∧ d ∧ e ∧ f ∧ p) : p := h.2.2.2.2.2.2
theorem ej8 {a b c d e f g p : Prop} (h : a ∧ b ∧ c ∧ d ∧ e ∧ f ∧ g ∧ p) : p := h.2.2.2.2.2.2.2
theorem ej9 {a b c d e f g h p : Prop} (h : a ∧ b ∧ c ∧ d ∧ e ∧ f ∧ g ∧ h ∧ p) : p := h.2.2.2.2.2.2.2.2
theorem ej10 {a b c d e f g h i p : Prop} (h : a ∧ b ∧ c ∧ d ∧ e ∧ f ∧ g ∧ h ∧ i ∧ p) : p := h.2.2.2.2.2.2.2.2.2
theorem ej11 {a b c d e f g h i j p : Prop} (h : a ∧ b ∧ c ∧ d ∧ e ∧ f ∧ g ∧ h ∧ i ∧ j ∧ p) : p := h.2.2.2.2.2.2.2.2.2.2
end Mine
local macro_rules | `(tactic| k_ne) => `(tactic| k_extra "w k_ne")
local macro_rules | `(tactic| ktr_room) => `(tactic| k_extra "w room")
local macro_rules | `(tactic| ktr_units) => `(tactic| k_extra "w room")
local macro_rules | `(tactic| size_fits) => `(tactic| k_extra "w size")
local macro_rules | `(tactic| k_all) => `(tactic| k_extra "w k_all")
local macro_rules | `(tactic| walk_at "setAttr ref") => `(tactic| k_extra "w setAttr ref")
local macro_rules | `(tactic| k_enter) => `(tactic| k_extra "w k_enter")
local macro_rules | `(tactic| walk_at "exec Raise some none") => `(tactic| k_extra "w exec Raise some none")
local macro_rules | `(tactic| walk_at "call ref") => `(tactic| k_extra "w call ref")
local macro_rules | `(tactic| walk_at "leaving ref") => `(tactic| k_extra "w leaving ref")
local macro_rules | `(tactic| walk_at "exec While") => `(tactic| k_extra "w exec While")
local macro_rules | `(tactic| walk_at "call builtin:str.join") => `(tactic| k_extra "w call builtin:str.join")
local macro_rules | `(tactic| walk_at "call builtin:str.split") => `(tactic| k_extra "w call builtin:str.split")
local macro_rules | `(tactic| walk_at "subscriptTail") => `(tactic| k_extra "w subscriptTail")
local macro_rules | `(tactic| walk_at "eval ListComp") => `(tactic| k_extra "w eval ListComp")
local macro_rules | `(tactic| walk_at "eval Dict") => `(tactic| k_extra "w eval Dict")
local macro_rules | `(tactic| walk_at "getAttr ref") => `(tactic| k_extra "w getAttr ref")
local macro_rules | `(tactic| walk_at "noteFrame ref") => `(tactic| k_extra "w noteFrame ref")
local macro_rules | `(tactic| walk_at "execs cons") => `(tactic| k_extra "w execs cons")
local macro_rules | `(tactic| walk_at "exec For Name Name cons nil") => `(tactic| k_extra "w exec For Name Name cons nil")
local macro_rules | `(tactic| walk_at "FlagPost") => `(tactic| k_extra "w FlagPost")
local macro_rules | `(tactic| walk_at "call type:int") => `(tactic| k_extra "w call type:int")
local macro_rules | `(tactic| walk_at "ite") => `(tactic| k_extra "w ite")
local macro_rules | `(tactic| walk_at "exec For Name Call cons nil") => `(tactic| k_extra "w exec For Name Call cons nil")
local macro_rules | `(tactic| walk_at "pyIter ref") => `(tactic| k_extra "w pyIter ref")
local macro_rules | `(tactic| walk_at "subscriptTail Name Name ref int") => `(tactic| k_extra "w subscriptTail Name Name ref int")
local macro_rules | `(tactic| walk_at "call type:tuple") => `(tactic| k_extra "w call type:tuple")
local macro_rules | `(tactic| walk_at "truthy ref") => `(tactic| k_extra "w truthy ref")
local macro_rules | `(tactic| walk_at "DuPost") => `(tactic| k_extra "w DuPost")
local macro_rules | `(tactic| walk_at "call type:range") => `(tactic| k_extra "w call type:range")
local macro_rules | `(tactic| walk_at "CompSrc") => `(tactic| k_extra "w CompSrc")
local macro_rules | `(tactic| walk_at "binaryOp Add ref ref") => `(tactic| k_extra "w binaryOp Add ref ref")
local macro_rules | `(tactic| walk_at "compareOp NotEq ref ref") => `(tactic| k_extra "w compareOp NotEq ref ref")
local macro_rules | `(tactic| walk_at "compareOp Eq ref ref") => `(tactic| k_extra "w compareOp Eq ref ref")

section
open PySem PySem.W PySem.Spec PySem.Calls PyProof.Rows
namespace Mine
theorem w_off_C0 : True := by
  w_top off
  exact trivial
set_option maxRecDepth 100000
set_option maxHeartbeats 1500000

/-! ## cuts: what holds behind a statement, proved once for all its ways -/
theorem exec_then {prog : Program} {w : World} {A : Around} {E : Value → Shared → Prop} {s : Shared} {env : Env} {st : Stmt} {rest : List Stmt} {Q : Flow → Shared → Prop} (Mid : Shared → Prop)
    (h1 : wpAny (model prog w) A (exec st env) (fun f s₂ => f = .next ∧ Mid s₂) E s) (h2 : ∀ s₂, Mid s₂ → wpAny (model prog w) A (execs rest env) Q E s₂) : wpAny (model prog w) A (execs (st :: rest) env) Q E s := by
  refine wpAny_execs_cons (wpAny_mono h1 (fun f s₂ q => ?_) fun _ _ e => e)
  obtain ⟨rfl, q⟩ := q
  exact h2 s₂ q
/-- a statement that may leave, and what holds where it does not -/
theorem exec_cut1 {prog : Program} {w : World} {A : Around} {E : Value → Shared → Prop} {s : Shared} {env : Env} {a : Stmt} {sts : List Stmt} {Q : Flow → Shared → Prop} (Mid : Shared → Prop)
    (h1 : wpAny (model prog w) A (exec a env) (fun f s₁ => match f with | .next => Mid s₁ | f => Q f s₁) E s)
    (h2 : ∀ s₂, Mid s₂ → wpAny (model prog w) A (execs sts env) Q E s₂) : wpAny (model prog w) A (execs (a :: sts) env) Q E s := by
  refine wpAny_execs_cons (wpAny_mono h1 (fun f s₁ q => ?_) fun _ _ e => e)
  cases f with
  | next => exact h2 _ q
  | _ => exact q
/-- two statements that may leave, and what holds where they do not -/
theorem exec_cut2 {prog : Program} {w : World} {A : Around} {E : Value → Shared → Prop} {s : Shared} {env : Env} {a b : Stmt} {sts : List Stmt} {Q : Flow → Shared → Prop} (Mid : Shared → Prop)
    (h1 : wpAny (model prog w) A (exec a env) (fun f s₁ => match f with
      | .next => wpAny (model prog w) A (exec b env) (fun f' s₂ => match f' with | .next => Mid s₂ | f' => Q f' s₂) E s₁
      | f => Q f s₁) E s)
    (h2 : ∀ s₂, Mid s₂ → wpAny (model prog w) A (execs sts env) Q E s₂) : wpAny (model prog w) A (execs (a :: b :: sts) env) Q E s := by
  refine wpAny_execs_cons (wpAny_mono h1 (fun f s₁ q => ?_) fun _ _ e => e)
  cases f with
  | next => exact exec_cut1 Mid q h2
  | _ => exact q

/-- behind one assignment: what the name holds, what of the ledger is kept -/
noncomputable def CutPost (x : Str) (P : Value → Prop) (h₀ : Heap) (L : Addr) (m : Str → Option Value) (s : Shared) (nn : List (Addr × Obj)) (f : Flow) (s₂ : Shared) : Prop :=
  f = .next ∧ ∃ v h tk, s₂ = { s with heap := h, toks := tk } ∧ P v ∧ Fr h₀ L h (fun z => if z = x then some v else m z) ∧ News h₀ L h nn
theorem cut_post {x : Str} {P : Value → Prop} {h₀ h : Heap} {L : Addr} {m m' : Str → Option Value} {s : Shared} {nn nn' : List (Addr × Obj)} {v : Value} {tk : Nat}
    (F : Fr h₀ L h m') (N : News h₀ L h nn') (sub : ∀ p ∈ nn, p ∈ nn') (hx : m' x = some v) (hz : ∀ z, z ≠ x → m' z = m z) (hP : P v) :
    CutPost x P h₀ L m s nn .next { s with heap := h, toks := tk } := by
  have e : m' = fun z => if z = x then some v else m z := by
    funext z
    by_cases q : z = x
    · rw [if_pos q, q, hx]
    · rw [if_neg q, hz z q]
  exact ⟨rfl, v, h, tk, rfl, hP, e ▸ F, fun p hp => N p (sub p hp)⟩
theorem exec_cut {prog : Program} {w : World} {A : Around} {E : Value → Shared → Prop} {s : Shared} {env : Env} {st : Stmt} {sts : List Stmt} {Q : Flow → Shared → Prop} {h₀ : Heap} {L : Addr} {m : Str → Option Value} {nn' : List (Addr × Obj)}
    (x : Str) (P : Value → Prop) (nn : List (Addr × Obj)) (_ : Fr h₀ L s.heap m) (_ : News h₀ L s.heap nn')
    (h1 : wpAny (model prog w) A (exec st env) (CutPost x P h₀ L m s nn) E s)
    (h2 : ∀ v h tk, P v → Fr h₀ L h (fun z => if z = x then some v else m z) → News h₀ L h nn → wpAny (model prog w) A (execs sts env) Q E { s with heap := h, toks := tk }) :
    wpAny (model prog w) A (execs (st :: sts) env) Q E s :=
  exec_then (fun s₂ => ∃ v h tk, s₂ = { s with heap := h, toks := tk } ∧ P v ∧ Fr h₀ L h (fun z => if z = x then some v else m z) ∧ News h₀ L h nn)
    (wpAny_mono h1 (fun _ _ q => q) fun _ _ e => e) (by
      rintro s₂ ⟨v, h, tk, rfl, hP, F, N⟩
      exact h2 v h tk hP F N)
theorem exec_cutS {prog : Program} {w : World} {A : Around} {E : Value → Shared → Prop} {s : Shared} {env : Env} {st : Stmt} {sts : List Stmt} {Q : Flow → Shared → Prop} {h₀ : Heap} {L : Addr} {m : Str → Option Value} {nn : List (Addr × Obj)}
    (x : Str) (P : Value → Prop) (F : Fr h₀ L s.heap m) (N : News h₀ L s.heap nn)
    (h1 : wpAny (model prog w) A (exec st env) (CutPost x P h₀ L m s nn) E s)
    (h2 : ∀ v h tk, P v → Fr h₀ L h (fun z => if z = x then some v else m z) → News h₀ L h nn → wpAny (model prog w) A (execs sts env) Q E { s with heap := h, toks := tk }) :
    wpAny (model prog w) A (execs (st :: sts) env) Q E s := exec_cut x P nn F N h1 h2
noncomputable def Held (p : Prop) : Prop := p
theorem Held.get {p : Prop} (h : Held p) : p := h
end Mine
end

section
open PySem PySem.W PyProof.Rows
namespace Mine
theorem w_off_C1 : True := by
  w_top off
  exact trivial
set_option maxRecDepth 100000
set_option maxHeartbeats 4000000

noncomputable abbrev LS : List Str := [Str.ofString "GateloomError"]


theorem dr_div {z c : Int} (hc : 0 < c) (h0 : 0 ≤ z) (h1 : z < 2 ^ 300) : 0 ≤ z.fdiv c ∧ z.fdiv c < 2 ^ 300 := by
  rw [Int.fdiv_eq_ediv_of_nonneg _ (Int.le_of_lt hc)]
  exact ⟨Int.ediv_nonneg h0 (Int.le_of_lt hc), Int.lt_of_le_of_lt (Int.ediv_le_self _ h0) h1⟩
theorem dr_mod {z c : Int} (hc : 0 < c) : 0 ≤ z.fmod c ∧ z.fmod c < c := ⟨fmod_lo z hc, fmod_hi z hc⟩
theorem dr_low {z b : Int} (h0 : 0 ≤ b) (h1 : b ≤ 100) :
    0 ≤ (z.fmod 1000000007 + 7919 * (b + 1) + 3) * (z.fmod 1000000007 + 7919 * (b + 1) + 3) * 69069 + (b + 1) ∧
    (z.fmod 1000000007 + 7919 * (b + 1) + 3) * (z.fmod 1000000007 + 7919 * (b + 1) + 3) * 69069 + (b + 1) < 2 ^ 300 := by
  have p := fmod_lo z (n := 1000000007) (by decide)
  have q := fmod_hi z (n := 1000000007) (by decide)
  generalize z.fmod 1000000007 = u at *
  have v0 : 0 ≤ u + 7919 * (b + 1) + 3 := by omega
  have v1 : u + 7919 * (b + 1) + 3 ≤ 2 ^ 31 := by omega
  generalize u + 7919 * (b + 1) + 3 = v at *
  have w0 : 0 ≤ v * v := Int.mul_nonneg v0 v0
  have w1 : v * v ≤ 2 ^ 31 * 2 ^ 31 := Int.mul_le_mul v1 v1 v0 (by decide)
  generalize v * v = k at *
  have e : (2 : Int) ^ 300 = 2037035976334486086268445688409378161051468393665936250636140449354381299763336706183397376 := by decide
  omega
theorem dr_big {z : Int} : 0 ≤ z.fmod (10 ^ Int.toNat 60) ∧ z.fmod (10 ^ Int.toNat 60) < 2 ^ 300 := by
  have p : (0 : Int) < 10 ^ Int.toNat 60 := by decide
  have q : (10 : Int) ^ Int.toNat 60 < 2 ^ 300 := by decide
  exact ⟨fmod_lo z p, Int.lt_trans (fmod_hi z p) q⟩

theorem draw_ok {w : World} {dp un : Nat} {gd : Option (List Code)} {cn : Str} {cs : Scope} {a : Addr} {ccd : Value} {cl : List (Str × Addr)} {outer : List Env} {A₀ : Around} {base h₀ : Heap} {L : Addr} {m : Str → Option Value} {s : Shared} {Q E : Value → Shared → Prop} {mean : ExcName → Option Value} {mg mb : Str → Option Value}
    {jar l : Addr} {x b c : Int} {tx tb tc : Tok} {n nl : Nat} {vs : List Value} {ns : List Int} {rest : List (Addr × Obj)}
    (B : Below A₀ base outer h₀) (F : Fr h₀ L s.heap m) (X : (hd.heap_39 w.params).In h₀) (N : News h₀ L s.heap ((jar, listOf [Value.int x tx, Value.int b tb, Value.ref l].toArray n) :: (l, listOf vs.toArray nl) :: rest))
    (T : Top hd.view_39 (looseW hd.view_39 LS) mean mg mb h₀) (hk : cs.kind = .function)
    (hne : @Ne Nat jar l) (hrest : ∀ p ∈ rest, p.1 ≠ jar) (hi : IntsAre vs ns) (hn0 : 0 < ns.length) (hn1 : ns.length ≤ 40)
    (hx0 : 0 ≤ x) (hx1 : x < 2 ^ 300) (hb0 : 0 ≤ b) (hb1 : b ≤ 100) (hc0 : 0 < c) (hc1 : c ≤ 100)
    (hdp : dp + 1 < recursionLimit) (hu : un + 8 < cLine)
    (ret : ∀ (r x' b' : Int) (tr tx' tb' : Tok) (n' : Nat) (h' : Heap) (tk' : Nat), 0 ≤ r → r < c → 0 ≤ x' → x' < 2 ^ 300 → b ≤ b' → b' ≤ b + 1 →
      Fr h₀ L h' m → News h₀ L h' ((jar, listOf [Value.int x' tx', Value.int b' tb', Value.ref l].toArray n') :: (l, listOf vs.toArray nl) :: rest) → Q (.int r tr) { s with heap := h', toks := tk' }) :
    wpAny (model Challenge.rw_on0091_01.row.prog w) (ktrTop dp un gd cn cs L a ccd cl outer) (call (.ref 131) [.ref jar, .int c tc]) Q E s := by
  k_with_none
  (k_with "w k_ne" => (refine neN ?_; (try dsimp only); with_reducible first | assumption | exact Ne.symm (by assumption) | exact Nat.ne_of_gt (by first | assumption | exact cj1 (by assumption) | exact ej2 (by assumption) | exact cj2 (by assumption) | exact ej3 (by assumption) | exact cj3 (by assumption) | exact ej4 (by assumption) | exact cj4 (by assumption) | exact ej5 (by assumption) | exact cj5 (by assumption) | exact ej6 (by assumption) | exact cj6 (by assumption) | exact ej7 (by assumption) | exact cj7 (by assumption) | exact ej8 (by assumption) | exact cj8 (by assumption) | exact ej9 (by assumption) | exact cj9 (by assumption) | exact ej10 (by assumption) | exact cj10 (by assumption) | exact ej11 (by assumption)) | exact Nat.ne_of_lt (by first | assumption | exact cj1 (by assumption) | exact ej2 (by assumption) | exact cj2 (by assumption) | exact ej3 (by assumption) | exact cj3 (by assumption) | exact ej4 (by assumption) | exact cj4 (by assumption) | exact ej5 (by assumption) | exact cj5 (by assumption) | exact ej6 (by assumption) | exact cj6 (by assumption) | exact ej7 (by assumption) | exact cj7 (by assumption) | exact ej8 (by assumption) | exact cj8 (by assumption) | exact ej9 (by assumption) | exact cj9 (by assumption) | exact ej10 (by assumption) | exact cj10 (by assumption) | exact ej11 (by assumption))))
  (k_with "w lt" => ((try dsimp only); with_reducible first | assumption | exact cj1 (by assumption) | exact ej2 (by assumption) | exact cj2 (by assumption) | exact ej3 (by assumption) | exact cj3 (by assumption) | exact ej4 (by assumption) | exact cj4 (by assumption) | exact ej5 (by assumption) | exact cj5 (by assumption) | exact ej6 (by assumption) | exact cj6 (by assumption) | exact ej7 (by assumption) | exact cj7 (by assumption) | exact ej8 (by assumption) | exact cj8 (by assumption) | exact ej9 (by assumption) | exact cj9 (by assumption) | exact ej10 (by assumption) | exact cj10 (by assumption) | exact ej11 (by assumption)))
  (k_with "w room" => first | exact Nat.le_of_ble_eq_true rfl | exact room0 (by assumption) rfl | exact room1 (by assumption) rfl | exact room2 (by assumption) rfl)
  (k_with "w size" => first | exact Nat.le_of_ble_eq_true rfl | exact Nat.le_trans (by with_reducible assumption) (Nat.le_of_ble_eq_true rfl))
  (k_with "w k_all" => with_reducible assumption)
  revert X
  k_fill
  intro X
  refine wpAny_call ?_
  k_dflt cell_enter
  k_steps
  all_goals refine ret _ _ _ _ _ _ _ _ _ ?_ ?_ ?_ ?_ ?_ ?_ (by with_reducible assumption) (by with_reducible assumption)
  all_goals first
    | omega
    | exact (dr_mod hc0).1
    | exact (dr_mod hc0).2
    | exact (dr_div hc0 dr_big.1 dr_big.2).1
    | exact (dr_div hc0 dr_big.1 dr_big.2).2
    | exact (dr_div hc0 (dr_low hb0 hb1).1 (dr_low hb0 hb1).2).1
    | exact (dr_div hc0 (dr_low hb0 hb1).1 (dr_low hb0 hb1).2).2
    | exact (dr_div hc0 hx0 hx1).1
    | exact (dr_div hc0 hx0 hx1).2
end Mine
end

section
open PySem PySem.W PySem.Calls PyProof.Rows Builtin Builtin.ObjectAttr
namespace Mine
theorem w_off_X1 : True := by
  w_top off
  exact trivial
set_option maxRecDepth 100000
set_option maxHeartbeats 4000000

/-- what the written part says of an own exception class: its special methods, its order -/
structure FeCls (K : Frag) (C : Addr) : Prop where
  ga : findIn K (.ref C) "__getattribute__" = some (some (.builtin "BaseException.__getattribute__"))
  gh : findIn K (.ref C) "__getattr__" = some none
  sa : findIn K (.ref C) "__setattr__" = some (some (.builtin "object.__setattr__"))
  ini : findIn K (.ref C) "__init__" = some (some (.ref 36))
  fn : typeIn K (.ref 36) = some (.type "function")
  nokind : findIn K (.ref C) "kind" = some none
  noat : findIn K (.ref C) "at" = some none
  nodetail : findIn K (.ref C) "detail" = some none
  name : nsIn K mainGlobals "FormatError" = some (some (.ref C))
  slf : subIn K (.ref C) (.ref C) = some true
  exc : ktsIn K C "BaseException" = true

theorem fe_facts (w : World) : FeCls (hd.heap_39 w.params) 52 := by
  have X : (hd.heap_39 w.params, Challenge.rw_on0091_01) = (hd.heap_39 w.params, Challenge.rw_on0091_01) := rfl
  revert X
  k_fill
  intro _
  exact ⟨by k_is, by k_is, by k_is, by k_is, by k_is, by k_is, by k_is, by k_is, by k_is, by k_is, by kts_isx⟩
theorem fe_obj (w : World) : (hd.heap_39 w.params).lookup 52 = some (excClassObj "FormatError" "FormatError" 52 51 [.ref 39] [.ref 39, .type "Exception", .type "BaseException", .type "object"] true [] [] false none none (some (.ref 43)) none (some (Value.str (Str.ofString "FormatError") 232)) (some (Value.str (Str.ofString "FormatError") 240)) (some (.bool true)) "Exception.__new__") := by
  rfl
end Mine
end

section
open PySem PySem.W PySem.Calls PyProof.Rows Builtin Builtin.ObjectAttr
namespace Mine
theorem w_off_X2 : True := by
  w_top off
  exact trivial
set_option maxRecDepth 100000
set_option maxHeartbeats 4000000

noncomputable abbrev feBm : List Value := [.ref 39, .type "Exception", .type "BaseException", .type "object"]
noncomputable abbrev tupOf (vs : List Value) : Obj := { cls := .type "tuple", data := .seq vs.toArray }
/-- the exception's record: its dict d (none at birth), its tuple of arguments -/
noncomputable abbrev feObj (d : Option Addr) (t : Addr) : Obj := { cls := .ref 52, dict := d, data := .fields #[.ref t, .none, .none, .none, .bool false, .none] }

section
variable {prog : Program} {w : World} {A : Around} {E : Value → Shared → Prop} {R : Result → Shared → Prop} {h : Heap} {g : Array GenState} {d : Drawn} {t : Nat} {os : OsState}

theorem fe_check_new {M : Model} {rest : List Value} {Q : Unit → Shared → Prop} {nm q : Str} {C N : Addr} {bs : List Value} {hdct : Bool} {sn : List Str} {sub : List Value} {ab : Bool} {col : Option Bool} {dd : Option Addr} {k0 k1 k2 k3 k5 : Option Value}
    (hC : h.get? C = some (excClassObj nm q C N bs feBm hdct sn sub ab col dd k0 k1 k2 k3 k5 "Exception.__new__"))
    (hq : Q () ⟨h, g, d, t, os⟩) : wpAny M A (checkBuiltinCall "Exception.__new__" ⟨.ref C :: rest, []⟩) Q E ⟨h, g, d, t, os⟩ :=
  wpAny_check_new_subU PySem.F.excBase_Exception (bmB := feBm) (by simp [feBm]) .base hC hq

theorem fe_new {rest : List Value} {nm q : Str} {C N : Addr} {bs : List Value} {hdct : Bool} {sn : List Str} {sub : List Value} {ab : Bool} {col : Option Bool} {dd : Option Addr} {k0 k1 k2 k3 k5 : Option Value}
    (hC : h.get? C = some (excClassObj nm q C N bs feBm hdct sn sub ab col dd k0 k1 k2 k3 k5 "Exception.__new__"))
    (hq : R (.ok (.ret (.ref (h.objs.size + 1)))) ⟨(h.push (tupOf rest)).push { cls := .ref C, data := .fields #[.ref h.objs.size, .none, .none, .none, .bool false, .none] }, g, d, t, os⟩) (hrest : rest.length ≤ sizeLine) :
    codeAny (model prog w) A (.builtin "Exception.__new__" ⟨.ref C :: rest, []⟩) R ⟨h, g, d, t, os⟩ := by
  have Fn := PySem.F.excBase_Exception
  have hends := Fn.ends
  have hcB : (Value.ref C :: feBm).contains (.type "Exception") = true := by rw [List.contains_cons]; simp [feBm]
  have hcA : (Value.ref C :: feBm).contains (.type "AttributeError") = false := by rw [List.contains_cons]; simp [feBm]
  have hcN : (Value.ref C :: feBm).contains (.type "NameError") = false := by rw [List.contains_cons]; simp [feBm]
  refine codeAny_builtinAt Fn.entry ?_
  unfold Builtin.«BaseException.__new__»
  refine PySem.wpAt_bind ?_
  show PySem.wpAt _ _ _ (stack >>= _) _ _ _
  refine PySem.wpAt_bind (PySem.wpAt_stack fun p below => PySem.wpAt_of_wpAny ?_)
  wp_walk
  refine PySem.wpAt_of_wpAny ?_
  rw [Fn.owner]
  repeat (first | with_reducible refine wpAny_madeHere_exc Fn.canon hC ?_ | with_reducible refine wpAny_loadPart_at hC ?_ | (with_reducible refine wpAny_isSubtype_exc hC ?_; first | rw [hcB] | rw [hcA] | rw [hcN]) | wp_step)
  show R _ _
  rw [Heap.size_push]
  exact hq

theorem fe_make {rest : List Value} (X : (hd.heap_39 w.params).In h) (hrest : rest.length ≤ sizeLine)
    (hq : codeAny (model prog w) (A.under (.builtin "type.__call__" ⟨.ref 52 :: rest, []⟩)) (.call (.ref 36) ⟨.ref (h.objs.size + 1) :: rest, []⟩) (InitBack (h.objs.size + 1) R)
      ⟨(h.push (tupOf rest)).push (feObj none h.objs.size), g, d, t, os⟩) :
    codeAny (model prog w) A (.call (.ref 52) ⟨rest, []⟩) R ⟨h, g, d, t, os⟩ := by
  have hC := X _ _ (fe_obj w)
  have f1 := tc_lookup
  have f2 := tc_bind (.ref 52)
  have hT : (⟨h, g, d, t, os⟩ : Shared).TypeIs (.ref 52) "type" := ⟨_, hC, rfl⟩
  refine codeAny_of_tree ?_
  show wpAny _ _ (callAny (.ref 52) _) _ _ _
  repeat (any_goals (first | assumption | with_reducible refine wpAny_loadPart_at hC ?_ | wp_step))
  refine ⟨rfl, ?_⟩
  refine codeAny_call_builtin_at (Code.quiet_builtin _ (by decide +kernel)) entry_typeCall (wpAny_check_type_call_sub hC ?_)
  repeat (first | with_reducible refine wpAny_loadPart_at hC ?_ | with_reducible refine wpAny_madeBy_exc hC ?_ | wp_step)
  refine codeAny_call_builtin_code (Code.quiet_builtin _ PySem.F.excBase_Exception.quiet) (fe_check_new hC ?_)
  refine fe_new hC ?_ hrest
  show wpAny _ _ _ _ _ _
  have k : ∀ b o, h.get? b = some o → ((h.push (tupOf rest)).push (feObj none h.objs.size)).get? b = some o := fun b o e => Heap.get?_push_of_some _ (Heap.get?_push_of_some _ e)
  have hx : ((h.push (tupOf rest)).push (feObj none h.objs.size)).get? (h.objs.size + 1) = some (feObj none h.objs.size) := by heap_get
  have X1 := X.keeps k
  have hC1 := k _ _ hC
  have i1 := looks_findIn (M := model prog w) X1 (fe_facts w).ini
  have b1 := bind_fn (M := model prog w) X1 (.ref (h.objs.size + 1)) (fe_facts w).fn
  have hcC : (Value.ref 52 :: feBm).contains (.ref 52) = true := by simp
  have t1 : Looks (model prog w) ((h.push (tupOf rest)).push (feObj none h.objs.size)) (typeOf (.ref (h.objs.size + 1))) (.ref 52) := (Looks.ld (part := none) hx).andThen .now
  have s1 : Looks (model prog w) ((h.push (tupOf rest)).push (feObj none h.objs.size)) (isSubtype (.ref 52) (.ref 52)) true := looks_subIn X1 (fe_facts w).slf
  show wpAny _ _ _ _ _ ⟨(h.push (tupOf rest)).push (feObj none h.objs.size), g, d, t, os⟩
  unfold isInstance callSpecial? specialOf
  repeat (first | with_reducible refine wpAny_call ?_ | lk)
  refine codeAny_mono hq fun r s' z => ?_
  rcases r with e | (v | _ | _ | _) <;> first | exact z | exact z.elim | skip
  obtain ⟨rfl, z⟩ := z
  exact wpAny_pure (wpAny_pure z)
end
end Mine
end

section
open PySem PySem.W PySem.Calls PyProof.Rows Builtin Builtin.ObjectAttr
namespace Mine
theorem w_off_X3 : True := by
  w_top off
  exact trivial
set_option maxRecDepth 100000
set_option maxHeartbeats 4000000

section
variable {prog : Program} {w : World} {A : Around} {E : Value → Shared → Prop} {R : Result → Shared → Prop} {s : Shared} {h₀ : Heap} {L x : Addr} {m : Str → Option Value} {news : List (Addr × Obj)} {ox : Obj} {od : Option Obj} {name : Str} {v : Value} {tk : Tok}

theorem fe_refuse (self : Value) : refuseLoop self "__setattr__" (.ref 52 :: feBm) = pure () := by
  show refuseLoop self "__setattr__" [.ref 52, .ref 39, .type "Exception", .type "BaseException", .type "object"] = pure ()
  rw [refuseLoop_ref, refuseLoop_ref]
  exact PySem.F.store_Exception.passes self
theorem fe_clsIn : clsIn (hd.heap_39 w.params) 52 = some { name := "FormatError", bases := [.ref 39], mro := .ref 52 :: feBm, ns := 51, qualname := "FormatError" } := rfl

theorem fe_osa (X : (hd.heap_39 w.params).In s.heap) (I : InstAt s.heap x ox 52 od) (hf : findIn (hd.heap_39 w.params) (.ref 52) name = some none)
    (h : wpAny (model prog w) A.in1 (storeInOwnDict (.ref x) (.ref 52) (.str name tk) name v false)
      (fun fin s' => match fin with | .done f => R (.ok f) s' | .again c' => c'.quiet = true ∧ codeAny (model prog w) A c' R s') (fun e s' => R (.error e) s') s) :
    codeAny (model prog w) A (.call (.builtin "object.__setattr__") ⟨[.ref x, .str name tk, v], []⟩) R s := by
  have SF := PySem.F.store_object
  have sub : Looks (model prog w) s.heap (isInstance (.ref x) (.type "object")) true := I.type.andThen (looks_mroIn X (by unfold mroIn; rw [fe_clsIn]; rfl))
  refine codeAny_call_builtin SF.slot.plain SF.entry (@check_slot (model prog w) _ _ s "object.__setattr__" "object" "__setattr__" (.ref x) [.str name tk, v] [] _ SF.kind SF.split sub (SF.args (.ref x) (.str name tk) v) ?_)
  have hm : Looks (model prog w) s.heap (mroOf (.ref 52)) (.ref 52 :: feBm) := (looks_clsIn X fe_clsIn).andThen .now
  have L3 : Looks (model prog w) s.heap (storeTaker? none) none := .now
  rw [osa_eq, refuse_eq]
  refine wpAny_bind (wpAny_bind (I.type.here (wpAny_bind (hm.here ?_))))
  rw [fe_refuse]
  refine wpAny_pure (wpAny_bind (I.type.here (wpAny_bind ((looks_findIn X hf).here (wpAny_bind (L3.here ?_))))))
  exact h

theorem fe_sid {dx : Addr} {o o' : Obj} {es : List DictEntry} {n : Nat} {pre post : List (Addr × Obj)} {Q : PySem.Fin → Shared → Prop} (F : Fr h₀ L s.heap m) (N : News h₀ L s.heap (pre ++ (dx, o) :: post))
    (hl : (lookIn name o).isSome = true) (h1 : ∀ p ∈ pre, p.1 ≠ dx) (h2 : ∀ p ∈ post, p.1 ≠ dx)
    (e : Obj.putName name (PyData.keyHash w.params name) (.str name s.toks) v o = o') (e' : o'.data = .dict es.toArray n) (hz : es.length ≤ 1000)
    (h : ∀ h', Fr h₀ L h' m → News h₀ L h' (pre ++ (dx, o') :: post) → Q (.done (.ret .none)) { s with heap := h', toks := s.toks + 1 }) :
    wpAny (model prog w) A (storeInDict dx (.str name tk) name v) Q E s := by
  obtain ⟨U1, U2⟩ := news_upd (f := Obj.putName name (PyData.keyHash w.params name) (.str name s.toks) v) F N h1 h2 e (by obtain ⟨_, _, dd, _⟩ := o'; cases e'; rfl)
  have D := (N (dx, o) (by simp)).1
  have D' := (U2 (dx, o') (by simp)).1
  unfold storeInDict newKeyGuard
  refine wpAny_bind (wpAny_pure (wpAny_bind ?_))
  unfold nsSet
  refine wpAny_bind (wpAny_bind (wpAny_askSetting (wpAny_pure (wpAny_bind (wpAny_mkText (wpAny_bind (wpAny_loadPart D ?_)))))))
  unfold lookIn at hl
  split at hl
  · rename_i es₀ n₀ q
    rw [q]
    dsimp only
    have c : (!es₀.any (·.key.isStr name) && es₀.any (·.refKey)) = false := by
      rw [← Array.any_toList, ← Array.any_toList]
      split at hl
      · rename_i en he
        rw [List.any_eq_true.mpr ⟨en, List.mem_of_find?_eq_some he, List.find?_some he⟩]; rfl
      · split at hl
        · cases hl
        · rename_i z; rw [Bool.not_eq_true] at z; rw [z, Bool.and_false]
    rw [aRefKeyMayBeTheName_at, c]
    refine wpAny_updatePart D ?_
    refine wpAny_bind (wpAny_lookBehind D' (by rw [e']; exact pastItsLine_dict (by rw [List.size_toArray, sizeLine_eq]; omega)) ?_)
    exact wpAny_pure (h _ U1 U2)
  · cases hl

/-- a store into an exception that has its dict -/
theorem fe_set1 {Q : Unit → Shared → Prop} {dx : Addr} {es es' : List DictEntry} {n n' : Nat} {news' : List (Addr × Obj)} (F : Fr h₀ L s.heap m) (X₀ : (hd.heap_39 w.params).In h₀) (N : News h₀ L s.heap news)
    (hx : (x, ox) ∈ news) (hc : ox.cls = .ref 52) (hn : notCls ox = true) (hdx : ox.dict = some dx) (hm : (dx, dictOf es n) ∈ news)
    (hf : findIn (hd.heap_39 w.params) (.ref 52) name = some none) (hl : (getL name es).isSome = true)
    (e : (putL name (PyData.keyHash w.params name) (.str name (s.toks + 1)) v es, putN name es n) = (es', n')) (U : Upd dx (dictOf es n) (dictOf es' n') news news') (hz : es'.length ≤ 1000)
    (h : ∀ h', Fr h₀ L h' m → News h₀ L h' news' → Q () { s with heap := h', toks := s.toks + 1 + 1 }) :
    wpAny (model prog w) A (setAttr (.ref x) name v) Q E s := by
  have X := X₀.keeps F.keep
  have I : InstAt s.heap x ox 52 (some (dictOf es n)) := ⟨(N _ hx).1, hc, hn, by rw [hdx]; exact (N _ hm).1⟩
  refine set_plain X I (fe_facts w).sa ?_
  refine fe_osa (s := { s with toks := s.toks + 1 }) X I hf ?_
  obtain ⟨pre, post, rfl, rfl, a, b⟩ := U.split
  obtain ⟨e1, e2⟩ := Prod.mk.inj e
  unfold storeInOwnDict
  refine wpAny_bind (wpAny_pure ?_)
  have Lk : Looks (model prog w) s.heap (ownDictForStores (.ref x)) (some dx) := by
    intro A' Q' E' s' k q
    show wpAny _ _ (instanceDict x true) _ _ _
    unfold instanceDict
    refine wpAny_bind (wpAny_loadPart (k _ _ I.at_) ?_)
    rw [hc]
    refine wpAny_bind ((looks_clsIn (X.keeps k) fe_clsIn).here ?_)
    rw [hdx]
    exact wpAny_pure q
  refine wpAny_bind (Looks.here (s := { s with toks := s.toks + 1 }) Lk ?_)
  refine fe_sid (s := { s with toks := s.toks + 1 }) F N ?_ a b (by rw [putName_dict, e1, e2]) rfl hz ?_
  · rw [lookIn_dict]; exact hl
  · intro h' F' N'
    exact h h' F' N'

/-- the first store into a new exception: its dict is made -/
theorem fe_set0 {Q : Unit → Shared → Prop} {es' : List DictEntry} {n' : Nat} {t : Addr} {rest : List (Addr × Obj)} (F : Fr h₀ L s.heap m) (X₀ : (hd.heap_39 w.params).In h₀) (N : News h₀ L s.heap ((x, feObj none t) :: rest))
    (hr : ∀ p ∈ rest, p.1 ≠ x) (hf : findIn (hd.heap_39 w.params) (.ref 52) name = some none)
    (e : (putL name (PyData.keyHash w.params name) (.str name (s.toks + 1)) v [], putN name [] 0) = (es', n')) (hz : es'.length ≤ 1000)
    (h : ∀ d h', Fr h₀ L h' m → News h₀ L h' ((d, dictOf es' n') :: (x, feObj (some d) t) :: rest) → (∀ p ∈ (x, feObj none t) :: rest, p.1 < d) → Q () { s with heap := h', toks := s.toks + 1 + 1 }) :
    wpAny (model prog w) A (setAttr (.ref x) name v) Q E s := by
  have X := X₀.keeps F.keep
  have hx := (N _ (.head _)).1
  have I : InstAt s.heap x (feObj none t) 52 none := ⟨hx, rfl, rfl, trivial⟩
  refine set_plain X I (fe_facts w).sa ?_
  refine fe_osa (s := { s with toks := s.toks + 1 }) X I hf ?_
  obtain ⟨e1, e2⟩ := Prod.mk.inj e
  unfold storeInOwnDict
  refine wpAny_bind (wpAny_pure ?_)
  refine wpAny_bind ?_
  have lt : ∀ p ∈ (x, feObj none t) :: rest, p.1 < s.heap.objs.size := fun p hp => Heap.lt_size (N p hp).1
  have F1 := F.push emptyDict
  have N1 := N.push F emptyDict
  have N1' : News h₀ L (s.heap.push emptyDict) ([(s.heap.objs.size, emptyDict)] ++ (x, feObj none t) :: rest) := N1
  obtain ⟨F2, N2⟩ := news_upd (f := fun o => { o with dict := some s.heap.objs.size }) (o' := feObj (some s.heap.objs.size) t) F1 N1' (fun p hp => by
    rw [List.mem_singleton.mp hp]; exact Nat.ne_of_gt (lt _ (.head _))) hr rfl rfl
  have hx1 : (s.heap.push emptyDict).get? x = some (feObj none t) := Heap.get?_push_of_some _ hx
  have go : wpAny (model prog w) A.in1 (ownDictForStores (.ref x)) (fun r s' => r = some s.heap.objs.size ∧ s' = { s with heap := (s.heap.push emptyDict).update x (fun o => { o with dict := some s.heap.objs.size }), toks := s.toks + 1 }) (fun _ _ => False) { s with toks := s.toks + 1 } := by
    show wpAny _ _ (instanceDict x true) _ _ _
    unfold instanceDict
    refine wpAny_bind (wpAny_loadPart hx ?_)
    refine wpAny_bind (Looks.here (s := { s with toks := s.toks + 1 }) (looks_clsIn X fe_clsIn) ?_)
    refine wpAny_bind (wpAny_alloc' ?_)
    refine wpAny_bind (wpAny_update' hx1 ?_)
    exact wpAny_pure ⟨rfl, rfl⟩
  refine wpAny_mono go (fun r s' hh => ?_) fun _ _ x => x.elim
  obtain ⟨rfl, rfl⟩ := hh
  refine fe_sid (o := emptyDict) (o' := dictOf es' n') (pre := []) F2 N2 rfl (fun _ hp => nomatch hp) ?_ (by rw [show emptyDict = dictOf [] 0 from rfl, putName_dict, e1, e2]) rfl hz ?_
  · intro p hp
    rcases List.mem_cons.mp hp with rfl | hp
    · exact Nat.ne_of_lt (lt (x, feObj none t) (.head _))
    · exact Nat.ne_of_lt (lt _ (.tail _ hp))
  · intro h' F' N'
    exact h _ h' F' N' lt
end
end Mine
end

section
open PySem PySem.W PySem.Calls PyProof.Rows Builtin Builtin.ObjectAttr
namespace Mine
theorem w_off_X4 : True := by
  w_top off
  exact trivial
set_option maxRecDepth 100000
set_option maxHeartbeats 4000000

section
variable {prog : Program} {w : World} {A : Around} {E : Value → Shared → Prop} {R : Result → Shared → Prop} {s : Shared} {h₀ : Heap} {L x : Addr} {m : Str → Option Value} {news : List (Addr × Obj)} {ox : Obj} {od : Option Obj} {name : Str} {v : Value} {tk : Tok}

theorem fe_find {es : List DictEntry} {n : Nat} (hf : findIn (hd.heap_39 w.params) (.ref 52) name = some none) (hl : getL name es = some (some v)) : findObj (hd.heap_39 w.params) 52 (some (dictOf es n)) name = some (.value v) := by
  unfold findObj
  rw [fe_clsIn, hf]
  show ((W.ownOf _ (some (dictOf es n)) name).bind _) = _
  unfold W.ownOf
  rw [if_pos rfl]
  dsimp only
  rw [lookIn_dict, hl]
  rfl

theorem fe_get {Q : Value → Shared → Prop} {expr : Bool} {es : List DictEntry} {n : Nat} (X : (hd.heap_39 w.params).In s.heap) (I : InstAt s.heap x ox 52 (some (dictOf es n)))
    (hf : findIn (hd.heap_39 w.params) (.ref 52) name = some none) (hl : getL name es = some (some v)) (hv : handedIn v = true) (h : Q v { s with toks := s.toks + 1 }) :
    wpAny (model prog w) A (getAttr (.ref x) name expr) Q E s := by
  obtain ⟨hh, g, dr, t, os⟩ := s
  have FB := PySem.F.attr_Exception
  have L0 := I.type (M := model prog w)
  have L1 := looks_findIn (M := model prog w) X (fe_facts w).ga
  have L2 := looks_findIn (M := model prog w) X (fe_facts w).gh
  have L3 := looks_find (M := model prog w) X I (fe_find (n := n) hf hl)
  have sub : Looks (model prog w) hh (isInstance (.ref x) (.type "BaseException")) true := I.type.andThen (looks_mroIn X (by unfold mroIn; rw [fe_clsIn]; rfl))
  have hk : builtinKind "BaseException.__getattribute__" = some .slot := by decide +kernel
  have hsplit : splitId "BaseException.__getattribute__" = some ("BaseException", "__getattribute__") := by decide +kernel
  unfold getAttr getAttrBy
  refine wpAny_bind (wpAny_mkText (wpAny_holding (wpAny_bind (L0.at (wpAny_bind (L1.at ?_))))))
  have hx2 : (Value.builtin "BaseException.__getattribute__" == Value.builtin "object.__getattribute__") = false := by decide +kernel
  dsimp only
  rw [hx2, Bool.and_false, if_neg (by decide)]
  unfold getAttrByItsOwn
  refine wpAny_bind ?_
  unfold hookBefore
  show wpAny _ _ (typeLookup (.ref 52) "__getattr__") _ _ _
  refine L2.at ?_
  refine wpAny_bind (wpAny_attempt (wpAny_holding ?_))
  unfold callGetattribute
  rw [show (expr && onTheHeap (Value.builtin "BaseException.__getattribute__")) = false from by cases expr <;> rfl, if_neg (by decide)]
  unfold boundAndCalled
  rw [FB.ga.bind]
  refine wpAny_bind (wpAny_pure (wpAny_call ?_))
  refine codeAny_call_builtin FB.ga.plain PySem.F.entry_bexc_ga (@check_slot (model prog w) _ _ _ "BaseException.__getattribute__" "BaseException" "__getattribute__" (.ref x) [.str name t] [] _ hk hsplit sub (PySem.F.args_bexc_ga (.ref x) (.str name t)) ?_)
  refine wpAny_bind (wpAny_pure (wpAny_bind (wpAny_pure (wpAny_bind (L0.at (wpAny_bind (L3.at ?_)))))))
  refine wpAny_pure ?_
  show wpAny _ _ (handedOut v) _ _ _
  rw [handedOut_of hv]; exact wpAny_pure h
end
end Mine
end

section
open PySem PySem.W PySem.Calls PyProof.Rows Builtin Builtin.ObjectAttr
namespace Mine
theorem w_off_X5 : True := by
  w_top off
  exact trivial
set_option maxRecDepth 100000
set_option maxHeartbeats 4000000

section
variable {prog : Program} {w : World} {A : Around} {E : Value → Shared → Prop} {s : Shared} {env : Env}

/-- what a raised exception's evaluation must hand on -/
noncomputable def FeVal (w : World) (E : Value → Shared → Prop) (v : Value) (s₁ : Shared) : Prop :=
  ∃ x d t, v = .ref x ∧ s₁.heap.get? x = some (feObj d t) ∧ (hd.heap_39 w.params).In s₁.heap ∧ E (.ref x) s₁

theorem fe_raise {e : Expr} {pos : Pos} {Q : Flow → Shared → Prop} (hh : A.handled = none)
    (h : wpAny (model prog w) A (eval e env) (FeVal w E) E s) : wpAny (model prog w) A (exec (.Raise (some e) none pos) env) Q E s := by
  show wpAny (model prog w) A (do standAt pos; raiseStmt env (some (do let v ← eval e env; standAt pos; pure v)) none) Q E s
  refine wpAny_bind (wpAny_standAt ?_)
  unfold raiseStmt
  dsimp only
  refine wpAny_bind (wpAny_bind (wpAny_mono h (fun v s₁ h₁ => wpAny_bind (wpAny_standAt (wpAny_pure ?_))) fun _ _ x => x))
  obtain ⟨x, d, t, rfl, he, X, hE⟩ := h₁
  obtain ⟨hp, g, dr, tk, os⟩ := s₁
  have hC := X _ _ (fe_obj w)
  have hcB : (Value.ref 52 :: feBm).contains (.type "BaseException") = true := by rw [List.contains_cons]; simp [feBm]
  repeat (first | with_reducible refine wpAny_loadPart_at he ?_ | with_reducible refine wpAny_loadPart_at hC ?_ | (with_reducible refine wpAny_isSubtype_exc hC ?_; rw [hcB]) | wp_step)
  exact wpAny_raiseNew_none hh hE
end

section mild
/-- a tree that calls nothing and leaves every object's dict where it is -/
noncomputable def Mild {α : Type} : Sem α → Prop
  | .pure _ => True
  | .raise _ => True
  | .unsupported _ => True
  | .finish _ => True
  | .rule _ k => Mild (k ())
  | .at _ k => Mild (k ())
  | .load _ _ k => ∀ o, Mild (k o)
  | .update _ _ f k => (∀ o, (f o).dict = o.dict) ∧ Mild (k ())
  | .loadIfAlive _ k => ∀ o, Mild (k o)
  | .point _ k => Mild (k ())
  | .register _ _ => True
  | .alloc _ k => ∀ a, Mild (k a)
  | .fresh k => ∀ t, Mild (k t)
  | .ask k => ∀ x, Mild (k x)
  | .choose _ _ k => ∀ n, Mild (k n)
  | .os _ _ _ => False
  | .call _ _ _ _ _ => False
  | .handled _ k => ∀ v, Mild (k v)
  | .genState _ k => ∀ x, Mild (k x)
  | .newGen _ _ => False
  | .resume _ _ _ _ => False
  | .yield .. => True
  | .stack k => ∀ l, Mild (k l)
  | .fork .. => True
  | .thread k => Mild (k 0)
  | .await .. => True

noncomputable def DictAt (x : Addr) (d : Option Addr) (h : Heap) : Prop := ∃ o, h.objs[x]? = some o ∧ o.dict = d
theorem DictAt.push {x : Addr} {d : Option Addr} {h : Heap} (D : DictAt x d h) (o : Obj) : DictAt x d (h.push o) := by
  obtain ⟨o', h1, h2⟩ := D
  refine ⟨o', ?_, h2⟩
  unfold Heap.push
  dsimp only
  rw [Array.getElem?_push]
  rw [if_neg (Nat.ne_of_lt (Array.getElem?_eq_some_iff.mp h1).1)]
  exact h1
theorem DictAt.update {x a : Addr} {d : Option Addr} {h : Heap} (D : DictAt x d h) {f : Obj → Obj} (hf : ∀ o, (f o).dict = o.dict) : DictAt x d (h.update a f) := by
  obtain ⟨o', h1, h2⟩ := D
  obtain ⟨objs, l⟩ := h
  show ∃ o, (objs.modify a f)[x]? = some o ∧ o.dict = d
  rw [Array.getElem?_modify]
  have h1' : objs[x]? = some o' := h1
  rw [h1']
  by_cases q : a = x
  · rw [if_pos q]
    exact ⟨f o', rfl, (hf o').trans h2⟩
  · rw [if_neg q]
    exact ⟨o', rfl, h2⟩
theorem DictAt.of_get {x : Addr} {o : Obj} {h : Heap} (e : h.get? x = some o) : DictAt x o.dict h := ⟨o, (Heap.get?_some_iff.mp e).1, rfl⟩
theorem DictAt.dict {x : Addr} {d : Option Addr} {o : Obj} {h : Heap} (D : DictAt x d h) (e : h.get? x = some o) : o.dict = d := by
  obtain ⟨o', h1, h2⟩ := D
  have := (Heap.get?_some_iff.mp e).1
  rw [h1] at this
  cases this
  exact h2

theorem mild_wp {α : Type} {M : Model} {Γ : Ctx} {x : Addr} {d : Option Addr} : ∀ (t : Sem α) {Q : α → Pos → Shared → Prop} {E : Value → Pos → Shared → Prop} {p : Pos} {s : Shared}, Mild t → DictAt x d s.heap → Sem.wp M Γ t Q E p s →
    Sem.wp M Γ t (fun a p' s' => Q a p' s' ∧ DictAt x d s'.heap) (fun e p' s' => E e p' s' ∧ DictAt x d s'.heap) p s := by
  intro t
  induction t with
  | pure a => intro Q E p s _ D h; exact ⟨h, D⟩
  | raise e => intro Q E p s _ D h; exact ⟨h, D⟩
  | unsupported | finish | yield | fork | await | register => intro Q E p s _ _ h; exact h.elim
  | rule tag k ih => intro Q E p s m D h; exact ih () m D h
  | «at» p' k ih => intro Q E p s m D h; exact ih () m D h
  | load a part k ih => intro Q E p s m D h; obtain ⟨o, ho, h⟩ := h; exact ⟨o, ho, ih o (m o) D h⟩
  | loadIfAlive a k ih => intro Q E p s m D h; exact ih _ (m _) D h
  | point l k ih => intro Q E p s m D h; exact ih () m D h
  | update a part f k ih => intro Q E p s m D h; exact ⟨h.1, ih () m.2 (D.update m.1) h.2⟩
  | alloc o k ih => intro Q E p s m D h; exact ih _ (m _) (D.push o) h
  | fresh k ih => intro Q E p s m D h; exact ih _ (m _) D h
  | ask k ih => intro Q E p s m D h; exact ih _ (m _) D h
  | choose src n k ih => intro Q E p s m D h; exact ⟨h.1, ih _ (m _) D h.2⟩
  | os q l k ih => intro Q E p s m; exact m.elim
  | call c h g l k ih => intro Q E p s m; exact m.elim
  | genState g k ih => intro Q E p s m D h; obtain ⟨st, hg, h⟩ := h; exact ⟨st, hg, ih _ (m _) D h⟩
  | handled own k ih => intro Q E p s m D h; exact ih _ (m _) D h
  | newGen c k ih => intro Q E p s m; exact m.elim
  | resume g r l k ih => intro Q E p s m; exact m.elim
  | stack k ih => intro Q E p s m D h; exact ih _ (m _) D h
  | thread k ih => intro Q E p s m D h; exact ih 0 m D h

theorem mild_wpAny {α : Type} {M : Model} {A : Around} {t : Sem α} {Q : α → Shared → Prop} {E : Value → Shared → Prop} {s : Shared} {x : Addr} {d : Option Addr} (m : Mild t) (D : DictAt x d s.heap) (h : wpAny M A t Q E s) :
    wpAny M A t (fun a s' => Q a s' ∧ DictAt x d s'.heap) (fun e s' => E e s' ∧ DictAt x d s'.heap) s :=
  fun Γ p hΓ => mild_wp t m D (h Γ p hΓ)

theorem Mild.bind {α β : Type} {m : Sem α} {f : α → Sem β} (hm : Mild m) (hf : ∀ a, Mild (f a)) : Mild (m >>= f) := by
  show Mild (m.bind f)
  induction m with
  | pure a => exact hf a
  | raise e => trivial
  | unsupported | finish | register | yield | fork | await => trivial
  | rule tag k ih => exact ih () hm
  | «at» p' k ih => exact ih () hm
  | load a part k ih => exact fun o => ih o (hm o)
  | loadIfAlive a k ih => exact fun o => ih o (hm o)
  | point l k ih => exact ih () hm
  | update a part f k ih => exact ⟨hm.1, ih () hm.2⟩
  | alloc o k ih => exact fun o => ih o (hm o)
  | fresh k ih => exact fun o => ih o (hm o)
  | ask k ih => exact fun o => ih o (hm o)
  | choose src n k ih => exact fun o => ih o (hm o)
  | os q l k ih => exact hm.elim
  | call c h g l k ih => exact hm.elim
  | genState g k ih => exact fun o => ih o (hm o)
  | handled own k ih => exact fun o => ih o (hm o)
  | newGen c k ih => exact hm.elim
  | resume g r l k ih => exact hm.elim
  | stack k ih => exact fun o => ih o (hm o)
  | thread k ih => exact ih 0 hm

theorem Mild.pure {α : Type} {a : α} : Mild (Pure.pure a : Sem α) := trivial
theorem Mild.unsupported {α : Type} {w : String} : Mild (PySem.unsupported w : Sem α) := trivial
theorem mild_field {v : Value} {i : Nat} : Mild (field v i) := by
  unfold field fieldsOf
  refine .bind ?_ fun vs => ?_
  · split
    · refine .bind (fun _ => trivial) fun o => ?_
      split <;> trivial
    · trivial
  · split <;> trivial
theorem mild_setField {v x : Value} {i : Nat} : Mild (setField v i x) := by
  unfold setField
  split
  · unfold updateField
    refine .bind (fun _ => trivial) fun o => ?_
    split
    · split
      · refine ⟨fun o => ?_, trivial⟩
        obtain ⟨c, d, dt, sl⟩ := o
        cases dt <;> rfl
      · trivial
    · trivial
  · trivial
theorem mild_setFlight {e : Value} {f : Option Addr} : Mild (setFlight e f) := by
  unfold setFlight
  refine .bind mild_field fun tb => ?_
  split
  · exact mild_setField
  · exact .pure
theorem mild_ready : ∀ l : List Env, Mild (readyFrames l)
  | [] => trivial
  | env :: outer => by
    unfold readyFrames
    split
    · refine .bind (fun _ => trivial) fun o => ?_
      split
      · trivial
      · refine .bind ?_ fun i => .bind ?_ fun b => .bind ?_ fun _ => mild_ready outer
        · unfold behindIsImport
          split
          · trivial
          · split
            · trivial
            · exact .bind mild_field fun _ => trivial
        · unfold keptBack
          split
          · split
            · trivial
            · exact .bind (.bind (fun _ => trivial) fun _ => trivial) fun _ => trivial
          · trivial
        · exact ⟨fun _ => rfl, trivial⟩
    · trivial
theorem mild_frameOf {env : Env} : Mild (PySem.frameOf env) := by
  unfold PySem.frameOf
  refine .bind (.bind (fun _ => trivial) fun _ => trivial) fun l => .bind ?_ fun r => ?_
  · unfold frameObject
    split
    · trivial
    · exact .bind (mild_ready _) fun _ => trivial
  · split <;> trivial
theorem mild_place {f : Addr} {b : Bool} : Mild (entryPlaceOf f b) := by
  unfold entryPlaceOf
  refine .bind (fun _ => trivial) fun l => ?_
  split <;> trivial
theorem mild_newEntry {a b c d e : Value} {p : List Value} : Mild (EntryCells.newEntry a b c d e p) := by
  unfold EntryCells.newEntry newFields newObj
  dsimp only
  generalize (if p.isEmpty = true then List.replicate 6 Value.none else p) = q
  split
  · trivial
  · exact fun _ => trivial
theorem mild_noteFrame {e : Value} {env : Env} : Mild (noteFrame e env) := by
  unfold noteFrame
  split
  · refine .bind mild_field fun head => ?_
    have last : ∀ f : Addr, Mild (do let a ← PySem.frameOf env; let b ← entryPlaceOf f (head != Value.none); let c ← EntryCells.newEntry head a Value.none (rawInt f) Value.none b; setField e 1 c) := fun f =>
      .bind mild_frameOf fun _ => .bind mild_place fun _ => .bind mild_newEntry fun _ => mild_setField
    dsimp only
    split
    · refine .bind mild_field fun _ => ?_
      split
      · trivial
      · exact .bind mild_setField fun _ => last _
    · exact last _
  · trivial
theorem mild_leaving {e : Value} {env : Env} : Mild (leaving env e) := .bind mild_noteFrame fun _ => mild_setFlight
end mild
end Mine
end

section
open PySem PySem.W PySem.Spec PySem.Calls PyProof.Rows Builtin Builtin.ObjectAttr
namespace Mine
theorem w_off_X6 : True := by
  w_top off
  exact trivial
set_option maxRecDepth 100000
set_option maxHeartbeats 4000000

/-- an exception of the text's own that flies: its three attributes are what they are -/
noncomputable def RaisedF (base G : Heap) (l : List Env) (x : Addr) (kind : Str) (at_ : Int) (det : Str) (news : List (Addr × Obj)) (h : Heap) : Prop :=
  ∃ t vs dx es n tk ta td, RaisedS base G l x (.ref 52) t vs ((dx, dictOf es n) :: news) h ∧ DictAt x (some dx) h ∧
    getL "kind" es = some (some (.str kind tk)) ∧ getL "at" es = some (some (.int at_ ta)) ∧ getL "detail" es = some (some (.str det td))

section
variable {M : Model} {A : Around} {E : Value → Shared → Prop} {s' : Shared} {base g g₂ : Heap} {outer : List Env} {L a x t dx : Addr} {m : Str → Option Value} {name : Str} {scope : Scope} {cd : Value} {Q : Unit → Shared → Prop} {news : List (Addr × Obj)}
  {kind det : Str} {at_ : Int}

theorem fe_leave_first {es : List DictEntry} {n : Nat} {vs : List Value} {tk ta td : Tok} (K : Below A base outer g) (F : Fr g L s'.heap m)
    (N : News g L s'.heap ((dx, dictOf es n) :: (x, feObj (some dx) t) :: (t, tupOf vs) :: news)) (hx : ∀ q ∈ (dx, dictOf es n) :: news, q.1 ≠ x) (ht : ∀ q ∈ (dx, dictOf es n) :: news, q.1 ≠ t)
    (h1 : getL "kind" es = some (some (.str kind tk))) (h2 : getL "at" es = some (some (.int at_ ta))) (h3 : getL "detail" es = some (some (.str det td)))
    (hQ : ∀ h', RaisedF base g outer x kind at_ det news h' → g.UpToSlots h' → Q () { s' with heap := h' }) (hk : scope.kind = .function := by rfl) :
    wpAny M (A.deeper (envOf name scope L a cd)) (leaving (envOf name scope L a cd) (.ref x)) Q E s' := by
  have K' := K.push (name := name) (a := a) (cd := cd) F hk
  have Nx := N _ (.tail _ (.head _))
  have Nt := N _ (.tail _ (.tail _ (.head _)))
  have sub : ∀ q ∈ (dx, dictOf es n) :: news, q ∈ (dx, dictOf es n) :: (x, feObj (some dx) t) :: (t, tupOf vs) :: news := fun q hq => by
    rcases List.mem_cons.mp hq with rfl | hq
    · exact .head _
    · exact .tail _ (.tail _ (.tail _ hq))
  generalize hfs : ((envOf name scope L a cd :: outer).filterMap (·.frame)) = fs
  have hin : ∀ env ∈ (envOf name scope L a cd :: outer), ∀ b, env.frame = some b → b ∈ x :: t :: fs := fun env he b hb => .tail _ (.tail _ (hfs ▸ List.mem_filterMap.mpr ⟨env, he, hb⟩))
  have notfs : ∀ (q : Addr × Obj), q ∈ (dx, dictOf es n) :: (x, feObj (some dx) t) :: (t, tupOf vs) :: news → q.1 ∉ fs := fun q hq hm => by
    rw [← hfs] at hm
    rcases kts_mem hm with z | z
    · exact (N q hq).2.1 z
    · obtain ⟨_, o, ho, _⟩ := K.frames.mem z
      rw [(N q hq).2.2] at ho; cases ho
  have hg : ∀ b o, g.get? b = some o → b ≠ x ∧ b ≠ t := fun b o q => ⟨(fun z => by rw [z, Nx.2.2] at q; cases q), (fun z => by rw [z, Nt.2.2] at q; cases q)⟩
  have sg : ∀ b o, g.get? b = some o → b ∉ outer.filterMap (·.frame) → (hideAll s'.heap (x :: t :: fs)).get? b = some o := fun b o q nm => hideAll_get _ (F.keep b o q) fun hm => by
    rcases List.mem_cons.mp hm with z | hm
    · exact (hg b o q).1 z
    · rcases List.mem_cons.mp hm with z | hm
      · exact (hg b o q).2 z
      · rw [← hfs] at hm
        rcases kts_mem hm with z | z
        · rw [z, kts_self F] at q; cases q
        · exact nm z
  have st : base.StaysIn (hideAll s'.heap (x :: t :: fs)) := fun b o q => sg b o (K.stays b o q) fun hm => by
    rw [(K.frames.mem hm).1] at q; cases q
  have hl : ∀ q ∈ (dx, dictOf es n) :: news, (hideAll s'.heap (x :: t :: fs)).get? q.1 = some q.2 ∧ g.get? q.1 = none ∧ base.get? q.1 = none := fun q hq => by
    refine ⟨hideAll_get _ (N q (sub q hq)).1 fun hm => ?_, (N q (sub q hq)).2.2, fresh_of_stays K.stays (N q (sub q hq)).2.2⟩
    rcases List.mem_cons.mp hm with z | hm
    · exact hx q hq z
    · rcases List.mem_cons.mp hm with z | hm
      · exact ht q hq z
      · exact notfs q (sub q hq) hm
  refine wpAny_mono (mild_wpAny mild_leaving (DictAt.of_get Nx.1) (wpAny_leaving_firstW (Q := fun _ s₁ => ∃ h', s₁ = { s' with heap := h' } ∧ Heap.LeftW (hideAll s'.heap (x :: t :: fs)) (envOf name scope L a cd :: outer) x (.ref 52) (.ref t) s'.heap h') (a0 := .ref t) K'.stack (funFrames_hide K'.frames hin) rfl Nx.1 (fun b o q => of_hideAll _ q)
    (hideAll_none _ (.head _)) rfl rfl rfl fun h' hL => ⟨h', rfl, hL⟩)) (fun _ s₁ z => ?_) fun _ _ z => z.1
  obtain ⟨⟨h', rfl, k1, ⟨_, _, k2⟩, k3, k4⟩, D⟩ := z
  refine hQ h' ⟨t, vs, dx, es, n, tk, ta, td, ⟨⟨_, st, sg, hl, ⟨k1, hideAll_none _ (.head _), k2, k3⟩, hideAll_none _ (.tail _ (.head _))⟩, Heap.TupAt.of_slots ⟨_, _, Nt.1, rfl, rfl⟩ k4⟩, D, h1, h2, h3⟩ ((Heap.UpToSlots.of_keeps F.keep).trans k4)

theorem fe_leave_on (K : Below A base outer g) (F : Fr g L g₂ m) (R : RaisedF base g₂ (envOf name scope L a cd :: outer) x kind at_ det news s'.heap) (hsm : g₂.UpToSlots s'.heap)
    (hQ : ∀ h', RaisedF base g outer x kind at_ det news h' → g.UpToSlots h' → Q () { s' with heap := h' }) :
    wpAny M (A.deeper (envOf name scope L a cd)) (leaving (envOf name scope L a cd) (.ref x)) Q E s' := by
  obtain ⟨t, vs, dx, es, n, tk, ta, td, R, D, h1, h2, h3⟩ := R
  refine wpAny_mono (mild_wpAny mild_leaving D (leave_onS (Q := fun _ s₁ => ∃ h', s₁ = { s' with heap := h' } ∧ RaisedS base g outer x (.ref 52) t vs ((dx, dictOf es n) :: news) h' ∧ g.UpToSlots h') K F R hsm fun h' r _ u => ⟨h', rfl, r, u⟩)) (fun _ s₁ z => ?_) fun _ _ z => z.1
  obtain ⟨⟨h', rfl, r, u⟩, D'⟩ := z
  exact hQ h' ⟨t, vs, dx, es, n, tk, ta, td, r, D', h1, h2, h3⟩ u
end
end Mine
end

section
open PySem PySem.W PySem.Spec PySem.Calls PyProof.Rows Builtin Builtin.ObjectAttr
namespace Mine
theorem w_off_X7 : True := by
  w_top off
  exact trivial
set_option maxRecDepth 100000
set_option maxHeartbeats 4000000

section
variable {prog : Program} {w : World} {A₀ A : Around} {E : Value → Shared → Prop} {s s' : Shared} {base g₀ g G : Heap} {outer : List Env} {L a x : Addr} {m : Str → Option Value} {name : Str} {scope : Scope} {cd : Value} {news : List (Addr × Obj)}
  {kind det n : Str} {at_ : Int} {b₀ : Stmt} {suite : List Stmt} {pos np : Pos} {rest : List ExceptHandler} {p : Program} {loose : List Str} {mean : ExcName → Option Value} {mg mb : Str → Option Value}

theorem fe_caught {Q : Flow → Shared → Prop} (R : RaisedF base G (envOf name scope L a cd :: outer) x kind at_ det news s'.heap) (F : Fr g L G m) (K : Below A₀ base outer g) (hsm : G.UpToSlots s'.heap) (XB : (hd.heap_39 w.params).In base) (TB : Top p loose mean mg mb base)
    (D : KtsDicts (outer.filterMap (·.frame)) g) (T0 : KtsTurn (outer.filterMap (·.frame)) g₀ g)
    (k : ∀ h' g' tk ox dx es c t1 t2 t3, KtsTurn (outer.filterMap (·.frame)) g₀ g' → Fr g' L h' (fun y => if y = n then some (.ref x) else m y) → News g' L h' ((x, ox) :: (dx, dictOf es c) :: news) → ox.cls = .ref 52 → notCls ox = true → ox.dict = some dx →
      getL "kind" es = some (some (.str kind t1)) → getL "at" es = some (some (.int at_ t2)) → getL "detail" es = some (some (.str det t3)) → Below A₀ base outer g' → (hd.heap_39 w.params).In g' → Top p loose mean mg mb g' → KtsDicts (outer.filterMap (·.frame)) g' →
      wpAny (model prog w) ((A₀.deeper (envOf name scope L a cd)).mark (some (.ref x))) (execs (b₀ :: suite) (envOf name scope L a cd))
        (fun f s₄ => wpAny (model prog w) (A₀.deeper (envOf name scope L a cd)) (do bindName (envOf name scope L a cd) n .none; unbindBehindTheSuite (envOf name scope L a cd) n pos) (fun _ s₅ => Q f s₅) E s₄)
        (AsSuiteRaised (model prog w) ((A₀.deeper (envOf name scope L a cd)).mark (some (.ref x))) (envOf name scope L a cd) n pos (notedBy (model prog w) ((A₀.deeper (envOf name scope L a cd)).mark (some (.ref x))) (envOf name scope L a cd) (cameBackBy (model prog w) (A₀.deeper (envOf name scope L a cd)) (envOf name scope L a cd) E)))
        { s' with heap := h', toks := tk })
    (hk : scope.kind = .function := by rfl) (hlo : (envOf name scope L a cd).kindOf n = some .local := by rfl) (hx : (envOf name scope L a cd).kindOf "FormatError" = some .globalImplicit := by rfl) :
    wpAny (model prog w) (A₀.deeper (envOf name scope L a cd)) (noteFrame (.ref x) (envOf name scope L a cd))
      (fun _ s₂ => wpAny (model prog w) (A₀.deeper (envOf name scope L a cd)) (setFlight (.ref x) none) (fun _ s₃ =>
        wpAny (model prog w) (A₀.deeper (envOf name scope L a cd)) (handleBy (.ref x) (envOf name scope L a cd) (.ExceptHandler (some (.Name "FormatError" np)) (some n) (b₀ :: suite) pos :: rest)) Q E s₃) E s₂) E s' := by
  obtain ⟨t, vs, dx, es, c, t1, t2, t3, R, DA, e1, e2, e3⟩ := R
  obtain ⟨⟨B, hB, hBG, hl, hfl, hnew⟩, htup⟩ := R
  have hL : B.get? L = none := by
    obtain ⟨_, ⟨L', _, hf, hn', _⟩, _⟩ := hfl.2.2.1
    obtain rfl : L = L' := Option.some.inj hf
    exact hn'
  refine wpAny_mono (mild_wpAny mild_noteFrame DA (wpAny_looks_onW (Q := fun _ s₁ => ∃ h', s₁ = { s' with heap := h' } ∧ Heap.HeldW B (envOf name scope L a cd :: outer) x (.ref 52) (.ref t) L h' ∧ s'.heap.UpToSlots h') (Around.frames_deeper K.stack) rfl hfl fun h' z1 z2 => ⟨h', rfl, z1, z2⟩)) (fun _ s₁ z => ?_) fun _ _ z => z.1
  obtain ⟨⟨h₄, rfl, hheld₄, hsm₄⟩, D₄⟩ := z
  refine wpAny_mono (mild_wpAny mild_setFlight D₄ (wpAny_landsW (Q := fun _ s₁ => ∃ h', s₁ = { s' with heap := h' } ∧ Heap.FlyingW B (envOf name scope L a cd :: outer) x (.ref 52) (.ref t) h' ∧ h₄.UpToSlots h') hheld₄ fun h' z1 z2 => ⟨h', rfl, z1, z2⟩)) (fun _ s₁ z => ?_) fun _ _ z => z.1
  obtain ⟨⟨h₅, rfl, hheld, hsm₅'⟩, D₅⟩ := z
  have hsm₅ := hsm₄.trans hsm₅'
  obtain ⟨g₅, T₅, F₅, K₅⟩ := kts_ground K F hBG hheld.1 (hsm.trans hsm₅)
  have X₅ : (hd.heap_39 w.params).In g₅ := XB.keeps K₅.stays
  have P₅ : TopRead p loose mg mb g₅ := topRead_of (TB.keeps K₅.stays)
  obtain ⟨ob, hob, hobc⟩ := hheld.there
  obtain ⟨nm, q', N, bs, bm, hdct, sn, sub, ab, col, dd, k0, k1, k2, k3, k5, newId, hC, hbase, hbT⟩ := kts_cls X₅ (fe_facts w).exc
  have hC₅ := F₅.keep _ _ hC
  refine wpAny_handleBy_cons (codeAny_handlers_test (name_K F₅ X₅ P₅ (fe_facts w).name ?_ hk hx (by decide))) (by intro q; cases q)
  refine wpAny_excMatches_sub_self hC₅ hob hobc hbase (codeAny_handlers_suite_as ?_)
  refine wpAny_mono (mild_wpAny mild_setFlight D₅ (lands_againW (Q := fun _ s₁ => ∃ h', s₁ = { s' with heap := h' } ∧ Heap.FlyingW B (envOf name scope L a cd :: outer) x (.ref 52) (.ref t) h' ∧ h₅.UpToSlots h') hheld fun h' z1 z2 => ⟨h', rfl, z1, z2⟩)) (fun _ s₁ z => ?_) fun _ _ z => z.1
  obtain ⟨⟨h₆, rfl, hfl₆, hsm₆⟩, D₆⟩ := z
  obtain ⟨g₆, T₆, F₆, K₆⟩ := kts_ground K F hBG hfl₆.1 ((hsm.trans hsm₅).trans hsm₆)
  obtain ⟨oe, ws, hoe, hoec, hoed, hoe0⟩ := hfl₆.first
  have ne₆ : g₆.get? x = none := T₆.none_ _ (kts_fresh F hBG hfl₆.2.1 fun o ho m => by
    obtain ⟨_, o', ho', hd⟩ := K.frames.mem m
    rw [ho] at ho'
    cases ho'
    obtain ⟨sl, hs⟩ := ((hsm.trans hsm₅).trans hsm₆) _ _ (F.keep _ _ ho) hd
    rw [hoe] at hs
    cases hs
    exact hd _ hoed)
  have Nl : News g₆ L h₆ ((dx, dictOf es c) :: news) := fun q hq => ⟨hfl₆.1 _ _ (hl q hq).1, (fun z => by have := (hl q hq).1; rw [z, hL] at this; cases this), T₆.none_ _ (kts_none F.keep (hl q hq).2.1)⟩
  have N₆ := News.more F₆ Nl hoe (fun es n q => by rw [hoed] at q; cases q) ne₆
  have X₆ : (hd.heap_39 w.params).In g₆ := XB.keeps K₆.stays
  have P₆ : Top p loose mean mg mb g₆ := TB.keeps K₆.stays
  have KD₆ : KtsDicts (outer.filterMap (·.frame)) g₆ := D.turn T₆
  refine stN F₆ N₆ (fun h₇ F₇ N₇ => ?_) hk hlo
  exact k h₇ g₆ _ oe dx es c t1 t2 t3 (T0.trans T₆) F₇ N₇ hoec (by unfold notCls; rw [hoed]) (D₆.dict hoe) e1 e2 e3 K₆ X₆ P₆ KD₆

variable {h₀ : Heap} {env : Env} {qual : Str} {params : Arguments} {body : List Stmt} {dV kV doc pm cdv ct oc : Value} {an od : Option Addr} {osl : Array (Option Value)} {f : Addr} {args : Args} {binds : List (Str × Value)} {R : Result → Shared → Prop} {K : Frag}

theorem code_tryX (B : Below A₀ base [] h₀) (F : Fr h₀ L s.heap m) (X₀ : K.In h₀) (N : News h₀ L s.heap news) (T : Top p loose mean mg mb h₀) (hA : A.frames = some [env]) (hf : env.frame = some L) (hke : env.scope.kind = .function)
    (ho : K.lookup f = some ⟨oc, od, .func (fnOf name qual params body scope dV kV doc pm an cdv ct), osl⟩) (hcd : codeIn K cdv qual = true) (hroom : A.depth < recursionLimit)
    (hbind : BindsTo s (fnOf name qual params body scope dV kV doc pm an cdv ct) args binds) (hloc : ∀ y ∈ binds, scope.names.lookup y.1 = some .local)
    (h : ∀ g L' h₁, Fr h₀ L g m → Fr g L' h₁ (fun y => binds.reverse.lookup y) → News g L' h₁ news → Below A base [env] g → K.In g → Top p loose mean mg mb g → KtsDicts ([env].filterMap (·.frame)) g →
      wpAny (model prog w) (A.deeper (envOf qual scope L' f cdv)) (execs body (envOf qual scope L' f cdv))
        (fun fl s' => LeaveS0 ([env].filterMap (·.frame)) h₀ L m g R (match fl with | .ret v => v | _ => .none) s')
        (fun e s' => wpAny (model prog w) (A.deeper (envOf qual scope L' f cdv)) (leaving (envOf qual scope L' f cdv) e) (fun _ s'' => R (.error e) s'') (fun e' s'' => R (.error e') s'') s')
        { s with heap := h₁, toks := s.toks + binds.length })
    (hco : scope.isCoroutine = false) (hgen : scope.isGenerator = false) (hk : scope.kind = .function)
    (hcell : ∀ x ∈ scope.names, x.2 ≠ .cell) : codeAny (model prog w) A (.call (.ref f) args) R s := by
  have X := X₀.keeps F.keep
  refine codeAny_call_def (fd := fnOf name qual params body scope dV kV doc pm an cdv ct) (body := body) (binds := binds) hroom (X _ _ ho) rfl (T.nolimit.keeps F.keep) (codeRec_of X hcd) rfl hbind hcell hloc (fun h₁ hns hk₁ => ?_) hco hgen hk
  obtain ⟨FG, BG, st, -⟩ := groundX (R := R) B F N hA hf hke
  obtain ⟨oL, es, ep, hLg, hLd, hLk, hLf⟩ := FG.ns
  have hfs : ∀ b, b ∈ [env].filterMap (·.frame) → b = L := fun b hb => by
    obtain ⟨e, he, q⟩ := List.mem_filterMap.mp hb
    rw [List.mem_singleton.mp he, hf] at q
    exact (Option.some.inj q).symm
  refine wpAny_mono (h _ s.heap.objs.size h₁ FG ⟨hns, fun b o e => hk₁ b o (of_hideAll _ e), Nat.le_of_eq (hideAll_size _ _)⟩
    (fun p hp => ⟨hk₁ _ _ (N p hp).1, Nat.ne_of_lt (Heap.lt_size (N p hp).1), hideAll_none _ (List.mem_map_of_mem hp)⟩) BG (X₀.keeps st) (T.keeps st) (fun b hb => by
      rw [hfs b hb]; exact ⟨oL, es, ep, hLg, hLd⟩)) (fun fl s' hl => ?_) fun _ _ y => y
  obtain ⟨g', L', m', news', T', F', N', k⟩ := hl
  have nL₀ : h₀.get? L = none := kts_self F
  obtain ⟨sl, hs⟩ := T'.up hLg
  refine k ⟨⟨_, es, ep, F'.keep _ _ hs, hLd, hLk, hLf⟩, fun b o e => F'.keep b o (T'.other b o (st b o e) (fun q => by
    rw [hfs b q, nL₀] at e
    cases e)), F.above⟩ fun p hp => ⟨(N' p hp).1, fun q => ?_, ?_⟩
  · have := (N' p hp).2.2; rw [q, hs] at this; cases this
  · cases q : h₀.get? p.1 with
    | none => rfl
    | some o =>
      obtain ⟨sl', hs'⟩ := T'.up (st _ _ q)
      have := (N' p hp).2.2
      rw [hs'] at this
      cases this
end
end Mine
end

section
open PySem PySem.W PySem.Spec PySem.Calls PyProof.Rows
namespace Mine
theorem w_off_X8 : True := by
  w_top off
  exact trivial
set_option maxRecDepth 100000
set_option maxHeartbeats 4000000

theorem fe_makeN {prog : Program} {w : World} {A : Around} {R : Result → Shared → Prop} {s : Shared} {h₀ : Heap} {L : Addr} {m : Str → Option Value} {news : List (Addr × Obj)} {rest : List Value} (F : Fr h₀ L s.heap m) (X₀ : (hd.heap_39 w.params).In h₀) (N : News h₀ L s.heap news) (hrest : rest.length ≤ sizeLine)
    (h : ∀ x t h', Fr h₀ L h' m → News h₀ L h' ((x, feObj none t) :: (t, tupOf rest) :: news) → (∀ p ∈ news, p.1 < t) → t < x →
      codeAny (model prog w) (A.under (.builtin "type.__call__" ⟨.ref 52 :: rest, []⟩)) (.call (.ref 36) ⟨.ref x :: rest, []⟩) (InitBack x R) { s with heap := h' }) :
    codeAny (model prog w) A (.call (.ref 52) ⟨rest, []⟩) R s := by
  obtain ⟨hh, g, d, t, os⟩ := s
  refine fe_make (X₀.keeps F.keep) hrest (h _ hh.objs.size _ ((F.push _).push _) ?_ (fun p hp => Heap.lt_size (N p hp).1) (Nat.lt_succ_self _))
  have := (N.push F (tupOf rest)).push (F.push _) (feObj none hh.objs.size)
  rw [Heap.size_push] at this
  exact this

section
variable {w : World} {dp un : Nat} {gd : Option (List Code)} {cn : Str} {cs : Scope} {a : Addr} {ccd : Value} {cl : List (Str × Addr)} {outer : List Env} {A₀ : Around} {base h₀ : Heap} {L : Addr} {m : Str → Option Value} {s : Shared} {Q E : Value → Shared → Prop} {mean : ExcName → Option Value} {mg mb : Str → Option Value}
  {kind det : Str} {at_ : Int} {tk ta td : Tok} {news : List (Addr × Obj)}

theorem allLt_trans {d e : Addr} (k : @LT.lt Nat _ d e) : ∀ {l : List (Addr × Obj)}, AllLt d l → AllLt e l
  | [], _ => trivial
  | _ :: _, h => ⟨Nat.lt_trans h.1 k, allLt_trans k h.2⟩
theorem allLt_ne {d : Addr} : ∀ {l : List (Addr × Obj)}, AllLt d l → ∀ p ∈ l, p.1 ≠ d := fun h p hp => Nat.ne_of_lt (ktn_ltOf h p hp)
theorem fe_call3 (B : Below A₀ base outer h₀) (F : Fr h₀ L s.heap m) (X : (hd.heap_39 w.params).In h₀) (N : News h₀ L s.heap news)
    (T : Top hd.view_39 (looseW hd.view_39 LS) mean mg mb h₀) (hk : cs.kind = .function) (hdp : dp + 3 < recursionLimit) (hu : un + 20 < cLine)
    (ret : ∀ x dx t es c vs t1 t2 t3 h' tk', Fr h₀ L h' m → News h₀ L h' ((dx, dictOf es c) :: (x, feObj (some dx) t) :: (t, tupOf vs) :: news) → (∀ p ∈ news, p.1 < t) → @LT.lt Nat _ t x → @LT.lt Nat _ x dx →
      getL "kind" es = some (some (.str kind t1)) → getL "at" es = some (some (.int at_ t2)) → getL "detail" es = some (some (.str det t3)) → Q (.ref x) { s with heap := h', toks := tk' }) :
    wpAny (model Challenge.rw_on0091_01.row.prog w) (ktrTop dp un gd cn cs L a ccd cl outer) (call (.ref 52) [.str kind tk, .int at_ ta, .str det td]) Q E s := by
  k_with_none
  (k_with "w k_ne" => (refine neN ?_; (try dsimp only); with_reducible first | assumption | exact Ne.symm (by assumption) | exact Nat.ne_of_gt (by first | assumption | exact cj1 (by assumption) | exact ej2 (by assumption) | exact cj2 (by assumption) | exact ej3 (by assumption) | exact cj3 (by assumption) | exact ej4 (by assumption) | exact cj4 (by assumption) | exact ej5 (by assumption) | exact cj5 (by assumption) | exact ej6 (by assumption) | exact cj6 (by assumption) | exact ej7 (by assumption) | exact cj7 (by assumption) | exact ej8 (by assumption) | exact cj8 (by assumption) | exact ej9 (by assumption) | exact cj9 (by assumption) | exact ej10 (by assumption) | exact cj10 (by assumption) | exact ej11 (by assumption)) | exact Nat.ne_of_lt (by first | assumption | exact cj1 (by assumption) | exact ej2 (by assumption) | exact cj2 (by assumption) | exact ej3 (by assumption) | exact cj3 (by assumption) | exact ej4 (by assumption) | exact cj4 (by assumption) | exact ej5 (by assumption) | exact cj5 (by assumption) | exact ej6 (by assumption) | exact cj6 (by assumption) | exact ej7 (by assumption) | exact cj7 (by assumption) | exact ej8 (by assumption) | exact cj8 (by assumption) | exact ej9 (by assumption) | exact cj9 (by assumption) | exact ej10 (by assumption) | exact cj10 (by assumption) | exact ej11 (by assumption))))
  (k_with "w lt" => ((try dsimp only); with_reducible first | assumption | exact cj1 (by assumption) | exact ej2 (by assumption) | exact cj2 (by assumption) | exact ej3 (by assumption) | exact cj3 (by assumption) | exact ej4 (by assumption) | exact cj4 (by assumption) | exact ej5 (by assumption) | exact cj5 (by assumption) | exact ej6 (by assumption) | exact cj6 (by assumption) | exact ej7 (by assumption) | exact cj7 (by assumption) | exact ej8 (by assumption) | exact cj8 (by assumption) | exact ej9 (by assumption) | exact cj9 (by assumption) | exact ej10 (by assumption) | exact cj10 (by assumption) | exact ej11 (by assumption)))
  (k_with "w room" => first | exact Nat.le_of_ble_eq_true rfl | exact room0 (by assumption) rfl | exact room1 (by assumption) rfl | exact room2 (by assumption) rfl)
  (k_with "w size" => first | exact Nat.le_of_ble_eq_true rfl | exact Nat.le_trans (by with_reducible assumption) (Nat.le_of_ble_eq_true rfl))
  (k_with "w k_all" => with_reducible assumption)
  (k_with "w setAttr ref" => (k_here; k_dflt (first | (refine fe_set0 (by k_asm) (by k_asm) (by k_asm) (by k_all) (by k_is) (by k_put) (by exact Nat.le_of_ble_eq_true rfl) ?_; k_whole; intro dww hww Fww Nww l1ww; replace l1ww := allLt_of l1ww; simp only [AllLt] at l1ww; obtain ⟨l1ww, l2ww, l3ww⟩ := l1ww; (try k_sweep)) | (refine fe_set1 (by k_asm) (by k_asm) (by k_asm) (by k_mem) (by rfl) (by rfl) (by rfl) (by k_mem) (by k_is) (by k_get) (by k_put) (by k_upd) (by exact Nat.le_of_ble_eq_true rfl) ?_; k_whole; intro hww Fww Nww; (try k_sweep)))))
  (k_with "w k_enter" => (refine code_def (by k_asm) (by k_asm) (by k_asm) (by k_asm) (by k_asm) (by exact rfl) (by exact rfl) (by assumption) (by k_is) (by k_is) (by ktr_room) (by first | exact BindsTo.of_eq rfl | exact binds_K (by k_in) rfl (by k_is) rfl rfl rfl) (by exact locs rfl) ?_ (by exact rfl) (by exact rfl) (by exact rfl) (by decide); k_whole; intro gww Lww hww FGww Fww Nww Bww Xww Tww; (try dsimp only); (try k_fold)))
  (k_with "w k_all" => exact allLt_ne (by with_reducible assumption))
  revert X
  k_fill
  intro X
  refine wpAny_call (fe_makeN F X N (by rw [sizeLine_eq]; show 3 ≤ 16777216; decide) ?_)
  intro x t h' F' N' l1 l2
  replace l1 := allLt_of l1
  k_lt2 l2
  have l3 := allLt_trans l2 l1
  k_dflt k_enter
  k_steps
  exact ret _ _ _ _ _ _ _ _ _ _ _ (by with_reducible assumption) (by with_reducible assumption) (ktn_ltOf l1) l2 (by with_reducible assumption) rfl rfl rfl

theorem fe_call2 (B : Below A₀ base outer h₀) (F : Fr h₀ L s.heap m) (X : (hd.heap_39 w.params).In h₀) (N : News h₀ L s.heap news)
    (T : Top hd.view_39 (looseW hd.view_39 LS) mean mg mb h₀) (hk : cs.kind = .function) (hdp : dp + 3 < recursionLimit) (hu : un + 20 < cLine)
    (ret : ∀ x dx t es c vs t1 t2 t3 h' tk', Fr h₀ L h' m → News h₀ L h' ((dx, dictOf es c) :: (x, feObj (some dx) t) :: (t, tupOf vs) :: news) → (∀ p ∈ news, p.1 < t) → @LT.lt Nat _ t x → @LT.lt Nat _ x dx →
      getL "kind" es = some (some (.str kind t1)) → getL "at" es = some (some (.int at_ t2)) → getL "detail" es = some (some (.str "" t3)) → Q (.ref x) { s with heap := h', toks := tk' }) :
    wpAny (model Challenge.rw_on0091_01.row.prog w) (ktrTop dp un gd cn cs L a ccd cl outer) (call (.ref 52) [.str kind tk, .int at_ ta]) Q E s := by
  k_with_none
  (k_with "w k_ne" => (refine neN ?_; (try dsimp only); with_reducible first | assumption | exact Ne.symm (by assumption) | exact Nat.ne_of_gt (by first | assumption | exact cj1 (by assumption) | exact ej2 (by assumption) | exact cj2 (by assumption) | exact ej3 (by assumption) | exact cj3 (by assumption) | exact ej4 (by assumption) | exact cj4 (by assumption) | exact ej5 (by assumption) | exact cj5 (by assumption) | exact ej6 (by assumption) | exact cj6 (by assumption) | exact ej7 (by assumption) | exact cj7 (by assumption) | exact ej8 (by assumption) | exact cj8 (by assumption) | exact ej9 (by assumption) | exact cj9 (by assumption) | exact ej10 (by assumption) | exact cj10 (by assumption) | exact ej11 (by assumption)) | exact Nat.ne_of_lt (by first | assumption | exact cj1 (by assumption) | exact ej2 (by assumption) | exact cj2 (by assumption) | exact ej3 (by assumption) | exact cj3 (by assumption) | exact ej4 (by assumption) | exact cj4 (by assumption) | exact ej5 (by assumption) | exact cj5 (by assumption) | exact ej6 (by assumption) | exact cj6 (by assumption) | exact ej7 (by assumption) | exact cj7 (by assumption) | exact ej8 (by assumption) | exact cj8 (by assumption) | exact ej9 (by assumption) | exact cj9 (by assumption) | exact ej10 (by assumption) | exact cj10 (by assumption) | exact ej11 (by assumption))))
  (k_with "w lt" => ((try dsimp only); with_reducible first | assumption | exact cj1 (by assumption) | exact ej2 (by assumption) | exact cj2 (by assumption) | exact ej3 (by assumption) | exact cj3 (by assumption) | exact ej4 (by assumption) | exact cj4 (by assumption) | exact ej5 (by assumption) | exact cj5 (by assumption) | exact ej6 (by assumption) | exact cj6 (by assumption) | exact ej7 (by assumption) | exact cj7 (by assumption) | exact ej8 (by assumption) | exact cj8 (by assumption) | exact ej9 (by assumption) | exact cj9 (by assumption) | exact ej10 (by assumption) | exact cj10 (by assumption) | exact ej11 (by assumption)))
  (k_with "w room" => first | exact Nat.le_of_ble_eq_true rfl | exact room0 (by assumption) rfl | exact room1 (by assumption) rfl | exact room2 (by assumption) rfl)
  (k_with "w size" => first | exact Nat.le_of_ble_eq_true rfl | exact Nat.le_trans (by with_reducible assumption) (Nat.le_of_ble_eq_true rfl))
  (k_with "w k_all" => with_reducible assumption)
  (k_with "w setAttr ref" => (k_here; k_dflt (first | (refine fe_set0 (by k_asm) (by k_asm) (by k_asm) (by k_all) (by k_is) (by k_put) (by exact Nat.le_of_ble_eq_true rfl) ?_; k_whole; intro dww hww Fww Nww l1ww; replace l1ww := allLt_of l1ww; simp only [AllLt] at l1ww; obtain ⟨l1ww, l2ww, l3ww⟩ := l1ww; (try k_sweep)) | (refine fe_set1 (by k_asm) (by k_asm) (by k_asm) (by k_mem) (by rfl) (by rfl) (by rfl) (by k_mem) (by k_is) (by k_get) (by k_put) (by k_upd) (by exact Nat.le_of_ble_eq_true rfl) ?_; k_whole; intro hww Fww Nww; (try k_sweep)))))
  (k_with "w k_enter" => (refine code_def (by k_asm) (by k_asm) (by k_asm) (by k_asm) (by k_asm) (by exact rfl) (by exact rfl) (by assumption) (by k_is) (by k_is) (by ktr_room) (by first | exact BindsTo.of_eq rfl | exact binds_K (by k_in) rfl (by k_is) rfl rfl rfl) (by exact locs rfl) ?_ (by exact rfl) (by exact rfl) (by exact rfl) (by decide); k_whole; intro gww Lww hww FGww Fww Nww Bww Xww Tww; (try dsimp only); (try k_fold)))
  (k_with "w k_all" => exact allLt_ne (by with_reducible assumption))
  revert X
  k_fill
  intro X
  refine wpAny_call (fe_makeN F X N (by rw [sizeLine_eq]; show 2 ≤ 16777216; decide) ?_)
  intro x t h' F' N' l1 l2
  replace l1 := allLt_of l1
  k_lt2 l2
  have l3 := allLt_trans l2 l1
  k_dflt k_enter
  k_steps
  exact ret _ _ _ _ _ _ _ _ _ _ _ (by with_reducible assumption) (by with_reducible assumption) (ktn_ltOf l1) l2 (by with_reducible assumption) rfl rfl rfl
end
end Mine
end

open PySem PySem.W PySem.Spec PySem.Calls PyProof.Rows
local macro_rules | `(tactic| k_enter) => `(tactic| (refine' code_def ?k1 ?k2 ?k3 ?k4 ?k5 ?kA ?kF ?kK ?k6 ?k7 ?k8 ?k9 ?kB ?_ ?c2 ?c3 ?c4 ?c5; (case kA => exact rfl); (case kF => exact rfl); (case kK => first | exact rfl | assumption); (case k1 => k_asm); (case k2 => k_asm); (case k3 => k_asm); (case k4 => k_asm); (case k5 => k_asm); (case k6 => k_is); (case k7 => k_is); (case k8 => ktr_room); (case k9 => first | exact BindsTo.of_eq rfl | exact binds_K (by k_in) rfl (by k_is) rfl rfl rfl); (case c5 => decide); (case kB => exact locs rfl); (case c2 => exact rfl); (case c3 => exact rfl); (case c4 => exact rfl); k_whole; intro g' L' h' FG' F' N' B' X' T'; (try dsimp only); (try k_fold)))

section
open PySem PySem.W PySem.Spec PySem.Calls PyProof.Rows
namespace Mine
theorem w_off_C3 : True := by
  w_top off
  exact trivial
set_option maxRecDepth 100000
set_option maxHeartbeats 4000000

theorem RaisedF.sub {base G : Heap} {l : List Env} {x : Addr} {kind : Str} {at_ : Int} {det : Str} {news news' : List (Addr × Obj)} {h : Heap} (R : RaisedF base G l x kind at_ det news h) (hs : ∀ p ∈ news', p ∈ news) : RaisedF base G l x kind at_ det news' h := by
  obtain ⟨t, vs, dx, es, n, tk, ta, td, ⟨⟨B, a, b, c, d, e⟩, f⟩, D, h1, h2, h3⟩ := R
  refine ⟨t, vs, dx, es, n, tk, ta, td, ⟨⟨B, a, b, fun q hq => c q ?_, d, e⟩, f⟩, D, h1, h2, h3⟩
  rcases List.mem_cons.mp hq with rfl | hq
  · exact .head _
  · exact .tail _ (hs q hq)

theorem fe_ne1 {dx x t : Addr} {o : Obj} {news : List (Addr × Obj)} (l1 : ∀ p ∈ news, p.1 < t) (l2 : @LT.lt Nat _ t x) (l3 : @LT.lt Nat _ x dx) : ∀ q ∈ (dx, o) :: news, q.1 ≠ x := fun q hq => by
  rcases List.mem_cons.mp hq with rfl | hq
  · exact Nat.ne_of_gt l3
  · exact Nat.ne_of_lt (Nat.lt_trans (l1 q hq) l2)
theorem fe_ne2 {dx x t : Addr} {o : Obj} {news : List (Addr × Obj)} (l1 : ∀ p ∈ news, p.1 < t) (l2 : @LT.lt Nat _ t x) (l3 : @LT.lt Nat _ x dx) : ∀ q ∈ (dx, o) :: news, q.1 ≠ t := fun q hq => by
  rcases List.mem_cons.mp hq with rfl | hq
  · exact Nat.ne_of_gt (Nat.lt_trans l2 l3)
  · exact Nat.ne_of_lt (l1 q hq)



/-! ## the plain reading of a number -/
noncomputable def dig (a : Str) : Bool := !(Builtin.Str.occurrences (Str.ofString "0123456789") a 0 (Str.ofString "0123456789").length 1).isEmpty
noncomputable def wnBad (t : Str) : Bool := (t == Str.ofString "") || decide (18 < t.length) || (signs t).any (fun a => !dig a) || (Txt.item t 0 == Str.ofString "0" && t != Str.ofString "0")
noncomputable def wnVal (t : Str) : Int := (PySem.intText? t).getD 0
theorem dig_one (c : Nat) : dig ⟨#[c]⟩ = decide (48 ≤ c ∧ c ≤ 57) := by
  unfold dig
  rw [StrLaws.found_one]
  rw [show (Str.ofString "0123456789").cps.toList = [48, 49, 50, 51, 52, 53, 54, 55, 56, 57] from by decide]
  apply decide_eq_decide.mpr
  constructor
  · intro h
    exact of_decide_eq_true (List.all_eq_true.mp (show [48, 49, 50, 51, 52, 53, 54, 55, 56, 57].all (fun c : Nat => decide (48 ≤ c ∧ c ≤ 57)) = true from by decide) c h)
  · intro h
    rw [show [48, 49, 50, 51, 52, 53, 54, 55, 56, 57] = (List.range 10).map (48 + ·) from by decide]
    exact List.mem_map.mpr ⟨c - 48, List.mem_range.mpr (Nat.sub_lt_left_of_lt_add h.1 (Nat.lt_succ_of_le h.2)), Nat.add_sub_cancel' h.1⟩
theorem wn_digits {t : Str} (h : ∀ a ∈ signs t, dig a = true) : PySem.NumText.AllDigits t.cps.toList := fun c hc => by
  have := h ⟨#[c]⟩ (List.mem_map.mpr ⟨c, hc, rfl⟩)
  rw [dig_one] at this
  exact of_decide_eq_true this
theorem wn_int {t : Str} (h : ∀ a ∈ signs t, dig a = true) (h0 : 1 ≤ t.length) (hl : t.length ≤ 640) : PySem.intText? t = some (wnVal t) := by
  have e := PySem.intText_digits (wn_digits h) (fun q => by
    have : t.cps.toList.length = t.length := Array.length_toList
    rw [q] at this
    simp at this
    omega) (Nat.le_trans hl (by decide))
  unfold wnVal
  rw [e]
  rfl
theorem wn_all {t : Str} (h : ∀ a ∈ signs t, (!!(Builtin.Str.occurrences (Str.ofString "0123456789") a 0 (Str.ofString "0123456789").length 1).isEmpty) = false) : ∀ a ∈ signs t, dig a = true := fun a ha => by
  have := h a ha
  unfold dig
  rw [Bool.not_not] at this
  rw [this]
  rfl
theorem wn_any {t a : Str} (ha : a ∈ signs t) (h : (!!(Builtin.Str.occurrences (Str.ofString "0123456789") a 0 (Str.ofString "0123456789").length 1).isEmpty) = true) : wnBad t = true := by
  unfold wnBad
  have : (signs t).any (fun a => !dig a) = true := List.any_eq_true.mpr ⟨a, ha, by unfold dig; exact h⟩
  rw [this]
  simp
theorem wn_empty {t : Str} (h : (t == Str.ofString "") = true) : wnBad t = true := by unfold wnBad; rw [h]; rfl
theorem wn_long {t : Str} (h : 18 < (t.length : Int)) : wnBad t = true := by unfold wnBad; rw [decide_eq_true (show 18 < t.length by omega)]; simp
theorem wn_lead {t : Str} (h1 : (Txt.item t 0 == Str.ofString "0") = true) (h2 : (t != Str.ofString "0") = true) : wnBad t = true := by unfold wnBad; rw [h1, h2]; simp
theorem wn_good {t : Str} (h1 : (t == Str.ofString "") = false) (h2 : ¬ 18 < (t.length : Int)) (h3 : ∀ a ∈ signs t, dig a = true) (h4 : (Txt.item t 0 == Str.ofString "0") = false ∨ (t != Str.ofString "0") = false) : wnBad t = false := by
  unfold wnBad
  have : (signs t).any (fun a => !dig a) = false := by
    apply Bool.eq_false_iff.mpr
    intro q
    obtain ⟨a, ha, hb⟩ := List.any_eq_true.mp q
    rw [h3 a ha] at hb
    cases hb
  rw [h1, decide_eq_false (show ¬ 18 < t.length by omega), this]
  rcases h4 with h4 | h4 <;> rw [h4] <;> simp

theorem wn_ok {w : World} {dp un : Nat} {gd : Option (List Code)} {cn : Str} {cs : Scope} {a : Addr} {ccd : Value} {cl : List (Str × Addr)} {outer : List Env} {A₀ : Around} {base h₀ : Heap} {L : Addr} {m : Str → Option Value} {s : Shared} {Q E : Value → Shared → Prop} {mean : ExcName → Option Value} {mg mb : Str → Option Value}
    {t : Str} {at_ : Int} {tt ta : Tok} {news : List (Addr × Obj)}
    (B : Below A₀ base outer h₀) (F : Fr h₀ L s.heap m) (X : (hd.heap_39 w.params).In h₀) (N : News h₀ L s.heap news)
    (T : Top hd.view_39 (looseW hd.view_39 LS) mean mg mb h₀) (hk : cs.kind = .function)
    (hlen : t.length ≤ 1000)
    (hdp : dp + 10 < recursionLimit) (hu : un + 100 < cLine)
    (ret : ∀ (tr : Tok) (h' : Heap) (tk' : Nat), wnBad t = false →
      Fr h₀ L h' m → News h₀ L h' news → Q (.int (wnVal t) tr) { s with heap := h', toks := tk' })
    (exc : ∀ x h' tk' g, wnBad t = true → Fr h₀ L g m → RaisedF base g (envX cn cs L a ccd cl :: outer) x (Str.ofString "bad_number") at_ t news h' → g.UpToSlots h' → E (.ref x) { s with heap := h', toks := tk' }) :
    wpAny (model Challenge.rw_on0091_01.row.prog w) (ktrTop dp un gd cn cs L a ccd cl outer) (call (.ref 110) [.str t tt, .int at_ ta]) Q E s := by
  k_with_none
  (k_with "w k_ne" => (refine neN ?_; (try dsimp only); with_reducible first | assumption | exact Ne.symm (by assumption) | exact Nat.ne_of_gt (by first | assumption | exact cj1 (by assumption) | exact ej2 (by assumption) | exact cj2 (by assumption) | exact ej3 (by assumption) | exact cj3 (by assumption) | exact ej4 (by assumption) | exact cj4 (by assumption) | exact ej5 (by assumption) | exact cj5 (by assumption) | exact ej6 (by assumption) | exact cj6 (by assumption) | exact ej7 (by assumption) | exact cj7 (by assumption) | exact ej8 (by assumption) | exact cj8 (by assumption) | exact ej9 (by assumption) | exact cj9 (by assumption) | exact ej10 (by assumption) | exact cj10 (by assumption) | exact ej11 (by assumption)) | exact Nat.ne_of_lt (by first | assumption | exact cj1 (by assumption) | exact ej2 (by assumption) | exact cj2 (by assumption) | exact ej3 (by assumption) | exact cj3 (by assumption) | exact ej4 (by assumption) | exact cj4 (by assumption) | exact ej5 (by assumption) | exact cj5 (by assumption) | exact ej6 (by assumption) | exact cj6 (by assumption) | exact ej7 (by assumption) | exact cj7 (by assumption) | exact ej8 (by assumption) | exact cj8 (by assumption) | exact ej9 (by assumption) | exact cj9 (by assumption) | exact ej10 (by assumption) | exact cj10 (by assumption) | exact ej11 (by assumption))))
  (k_with "w lt" => ((try dsimp only); with_reducible first | assumption | exact cj1 (by assumption) | exact ej2 (by assumption) | exact cj2 (by assumption) | exact ej3 (by assumption) | exact cj3 (by assumption) | exact ej4 (by assumption) | exact cj4 (by assumption) | exact ej5 (by assumption) | exact cj5 (by assumption) | exact ej6 (by assumption) | exact cj6 (by assumption) | exact ej7 (by assumption) | exact cj7 (by assumption) | exact ej8 (by assumption) | exact cj8 (by assumption) | exact ej9 (by assumption) | exact cj9 (by assumption) | exact ej10 (by assumption) | exact cj10 (by assumption) | exact ej11 (by assumption)))
  (k_with "w room" => first | exact Nat.le_of_ble_eq_true rfl | exact room0 (by assumption) rfl | exact room1 (by assumption) rfl | exact room2 (by assumption) rfl)
  (k_with "w size" => first | exact Nat.le_of_ble_eq_true rfl | exact Nat.le_trans (by with_reducible assumption) (Nat.le_of_ble_eq_true rfl))
  (k_with "w exec Raise some none" => (k_here; refine fe_raise rfl ?_))
  (k_with "w call ref" => (k_here; k_dflt (first | ((with_reducible show wpAny _ _ (call (Value.ref 52) [_, _, _]) _ _ _); refine fe_call3 (by k_asm) (by k_asm) (by k_asm) (by k_asm) (by k_asm) (by first | exact rfl | assumption) (by ktr_room) (by ktr_units) ?_; intro xww dxww tww esww cww vsww t1ww t2ww t3ww hww tkww Fww Nww l1ww l2ww l3ww e1ww e2ww e3ww; refine ⟨xww, some dxww, tww, rfl, (Nww _ (.tail _ (.head _))).1, by k_in, ?_⟩; (try k_sweep)) | ((with_reducible show wpAny _ _ (call (Value.ref 52) [_, _]) _ _ _); refine fe_call2 (by k_asm) (by k_asm) (by k_asm) (by k_asm) (by k_asm) (by first | exact rfl | assumption) (by ktr_room) (by ktr_units) ?_; intro xww dxww tww esww cww vsww t1ww t2ww t3ww hww tkww Fww Nww l1ww l2ww l3ww e1ww e2ww e3ww; refine ⟨xww, some dxww, tww, rfl, (Nww _ (.tail _ (.head _))).1, by k_in, ?_⟩; (try k_sweep)))))
  (k_with "w leaving ref" => (k_here; first | (refine fe_leave_first (by assumption) (by assumption) (by assumption) (by exact fe_ne1 (by assumption) (by assumption) (by assumption)) (by exact fe_ne2 (by assumption) (by assumption) (by assumption)) (by assumption) (by assumption) (by assumption) ?_; k_whole; intro hww Rww Uww; (try dsimp only at Rww Uww ⊢)) | (refine fe_leave_on (by assumption) (by assumption) (by assumption) (by assumption) ?_; k_whole; intro hww Rww Uww; (try dsimp only at Rww Uww ⊢))))
  revert X
  k_fill
  intro X
  refine wpAny_call ?_
  k_dflt cell_enter
  k_steps
  · exact exc _ _ _ _ (wn_empty (by assumption)) (by assumption) (by assumption) (by assumption)
  · exact exc _ _ _ _ (wn_long (by assumption)) (by assumption) (by assumption) (by assumption)
  · exact exc _ _ _ _ (wn_any (by assumption) (by assumption)) (by assumption) (RaisedF.sub (by assumption) fun p hp => List.mem_append_right _ hp) (by assumption)
  · exact exc _ _ _ _ (wn_lead (by assumption) (by assumption)) (by assumption) (by assumption) (by assumption)
  · have hall := wn_all (by assumption)
    have hint := wn_int hall (by assumption) (by omega)
    refine KIN.call_text hint (by omega) ?_
    k_steps
    exact ret _ _ _ (wn_good (by assumption) (by assumption) hall (.inr (by assumption))) (by with_reducible assumption) (by with_reducible assumption)
  · have hall := wn_all (by assumption)
    have hint := wn_int hall (by assumption) (by omega)
    refine KIN.call_text hint (by omega) ?_
    k_steps
    exact ret _ _ _ (wn_good (by assumption) (by assumption) hall (.inl (by assumption))) (by with_reducible assumption) (by with_reducible assumption)
end Mine
end

section
open PySem PySem.W PySem.Spec PySem.Calls PyProof.Rows
namespace Mine
theorem w_off_C4 : True := by
  w_top off
  exact trivial
set_option maxRecDepth 100000
set_option maxHeartbeats 4000000

/-- the reader's dict: its codes, the place it stands at, the place its last row began -/
noncomputable abbrev rdD (w : World) (lc : Addr) (i b : Int) (k1 k2 k3 t1 t2 : Tok) : Obj :=
  dictOf [⟨PyData.keyHash w.params (Str.ofString "codes"), .str (Str.ofString "codes") k1, .ref lc⟩, ⟨PyData.keyHash w.params (Str.ofString "at"), .str (Str.ofString "at") k2, .int i t1⟩, ⟨PyData.keyHash w.params (Str.ofString "begun"), .str (Str.ofString "begun") k3, .int b t2⟩] 3



/-- the signs of a row, from a place on -/
noncomputable def seg (cs : List Nat) (i : Nat) : List Nat := (cs.drop i).takeWhile (· ≠ 10)

/-- the signs taken so far, as texts -/
noncomputable def signs' (l : List Nat) : List Str := l.map fun c => ⟨#[c]⟩
noncomputable def rowPre (ks : List Nat) (i j : Nat) : List Str := signs' ((ks.drop i).take (j - i))
noncomputable def RowStep (Q : Flow → Shared → Prop) (h₀ : Heap) (L : Addr) (m₀ : Str → Option Value) (w : World) (lt dx lc : Addr) (b : Int) (k1 k2 k3 t2 : Tok) (ks : List Nat) (i j : Nat) (more : List (Addr × Obj)) (s : Shared) (f : Flow) (s₃ : Shared) : Prop :=
  match f with
  | .ret v => Q (.ret v) s₃
  | .brk => Q .next s₃
  | _ => ∃ vls cnt t1' h' tk', j + 1 ≤ i + (seg ks i).length ∧ StrsAre vls (rowPre ks i (j + 1)) ∧ s₃ = { s with heap := h', toks := tk' } ∧ Fr h₀ L h' m₀ ∧ News h₀ L h' ((lt, listOf vls.toArray cnt) :: (dx, rdD w lc (j + 1 : Nat) b k1 k2 k3 t1' t2) :: more)

theorem seg_len (ks : List Nat) (i : Nat) (hi : i ≤ ks.length) : i + (seg ks i).length ≤ ks.length := by
  have := (List.takeWhile_sublist (p := fun c => decide (c ≠ 10)) (l := ks.drop i)).length_le
  rw [List.length_drop] at this
  unfold seg
  omega
theorem row_code {ks : List Nat} {ns : List Int} (hks : ns = ks.map Int.ofNat) (hu0 : ∀ c ∈ ks, c < 1114112) (j : Nat) : 0 ≤ ns.getD (Int.toNat (j : Int)) 0 ∧ ns.getD (Int.toNat (j : Int)) 0 ≤ 1114111 := by
  subst hks
  rw [Int.toNat_natCast, List.getD_eq_getElem?_getD, List.getElem?_map]
  cases h : ks[j]? with
  | none => simp
  | some c =>
    have := hu0 c (List.mem_of_getElem? h)
    simp only [Option.map_some, Option.getD_some]
    constructor
    · exact Int.natCast_nonneg c
    · show (c : Int) ≤ 1114111
      omega

theorem rowPre_len (ks : List Nat) (i j : Nat) : (rowPre ks i j).length ≤ ks.length := by
  unfold rowPre signs'
  rw [List.length_map, List.length_take, List.length_drop]
  omega
theorem rowPre_sum (ks : List Nat) (i j : Nat) : ((rowPre ks i j).map (·.length)).sum = (rowPre ks i j).length := by
  unfold rowPre signs'
  generalize (ks.drop i).take (j - i) = l
  induction l with
  | nil => rfl
  | cons c l ih =>
    simp only [List.map_cons, List.sum_cons, List.length_cons] at ih ⊢
    rw [ih]
    show 1 + _ = _
    omega

theorem row_loop {prog : Program} {w : World} {A : Around} {E : Value → Shared → Prop} {Q : Flow → Shared → Prop} {s : Shared} {env : Env} {h₀ : Heap} {L : Addr} {test : Expr} {body : List Stmt} {pos : Pos} {m₀ : Str → Option Value}
    {lt dx lc : Addr} {i : Nat} {b : Int} {k1 k2 k3 t1 t2 : Tok} {ks : List Nat} {ns : List Int} {c0 : Nat} {more : List (Addr × Obj)}
    (F : Fr h₀ L s.heap m₀) (N : News h₀ L s.heap ((lt, listOf ([] : List Value).toArray c0) :: (dx, rdD w lc i b k1 k2 k3 t1 t2) :: more)) (hks : ns = ks.map Int.ofNat) (hu0 : ∀ c ∈ ks, c < 1114112) (hn1 : ks.length ≤ 1000)
    (turn : ∀ (j : Nat) (vls : List Value) cnt t1' h₁ tk₁, i ≤ j → j ≤ i + (seg ks i).length → StrsAre vls (rowPre ks i j) → vls.length ≤ 1000 → ((rowPre ks i j).map (·.length)).sum + (rowPre ks i j).length ≤ 1048576 → 0 ≤ ns.getD (Int.toNat (j : Int)) 0 → ns.getD (Int.toNat (j : Int)) 0 ≤ 1114111 →
      Fr h₀ L h₁ m₀ → News h₀ L h₁ ((lt, listOf vls.toArray cnt) :: (dx, rdD w lc j b k1 k2 k3 t1' t2) :: more) →
      wpAny (model prog w) A (isTrue test env (eval test env)) (fun bb s₂ => if bb = true then wpAny (model prog w) A (execs body env) (RowStep Q h₀ L m₀ w lt dx lc b k1 k2 k3 t2 ks i j more s) E s₂ else Q .next s₂) E { s with heap := h₁, toks := tk₁ })
    (hE : PassesOwn (model prog w) A env E := by passes_own) :
    wpAny (model prog w) A (exec (.While test body [] pos) env) Q E s := by
  refine While_inv2 (n₀ := (seg ks i).length) (fun n m₁ nx => m₁ = m₀ ∧ ∃ (j : Nat) (vls : List Value) (cnt : Nat) (t1' : Tok), n = i + (seg ks i).length - j ∧ i ≤ j ∧ j ≤ i + (seg ks i).length ∧ StrsAre vls (rowPre ks i j) ∧
    nx = (lt, listOf vls.toArray cnt) :: (dx, rdD w lc j b k1 k2 k3 t1' t2) :: more) F N ⟨rfl, i, [], c0, t1, by omega, Nat.le_refl _, Nat.le_add_right _ _, by unfold rowPre; rw [Nat.sub_self]; exact .nil, rfl⟩ ?_ hE
  rintro n m₁ nx h₁ tk₁ F₁ N₁ ⟨rfl, j, vls, cnt, t1', rfl, hj0, hj1, hS, rfl⟩
  have hc := row_code hks hu0 j
  have hpl := rowPre_len ks i j
  refine wpAny_mono (turn j vls cnt t1' h₁ tk₁ hj0 hj1 hS (by have := hS.length; omega) (by rw [rowPre_sum]; omega) hc.1 hc.2 F₁ N₁) (fun bb s₂ p => ?_) fun _ _ x => x
  cases bb with
  | false => simpa using p
  | true =>
    simp only [if_true] at p ⊢
    refine wpAny_mono p (fun f s₃ q => ?_) fun _ _ x => x
    cases f with
    | ret v => exact q
    | brk => exact q
    | next =>
      obtain ⟨vls', cnt', t1'', h', tk', hj, hS', rfl, F', N'⟩ := q
      exact ⟨h', tk', _, _, i + (seg ks i).length - (j + 1), rfl, F', N', by omega, rfl, j + 1, vls', cnt', t1'', rfl, by omega, hj, hS', rfl⟩
    | cont =>
      obtain ⟨vls', cnt', t1'', h', tk', hj, hS', rfl, F', N'⟩ := q
      exact ⟨h', tk', _, _, i + (seg ks i).length - (j + 1), rfl, F', N', by omega, rfl, j + 1, vls', cnt', t1'', rfl, by omega, hj, hS', rfl⟩


theorem tw_in : ∀ (l : List Nat) (k : Nat), k < (l.takeWhile (· ≠ 10)).length → ∃ c, l[k]? = some c ∧ c ≠ 10
  | [], k, h => by simp at h
  | a :: l, k, h => by
    by_cases ha : a = 10
    · subst ha; simp at h
    · rw [List.takeWhile_cons, if_pos (by simpa using ha)] at h
      cases k with
      | zero => exact ⟨a, rfl, ha⟩
      | succ k => exact tw_in l k (by simpa using h)
theorem tw_out : ∀ (l : List Nat) (c : Nat), l[(l.takeWhile (· ≠ 10)).length]? = some c → c = 10
  | [], c, h => by simp at h
  | a :: l, c, h => by
    by_cases ha : a = 10
    · subst ha; simp at h; exact h.symm
    · rw [List.takeWhile_cons, if_pos (by simpa using ha), List.length_cons, List.getElem?_cons_succ] at h
      exact tw_out l c h
theorem ns_get {ks : List Nat} {ns : List Int} (hks : ns = ks.map Int.ofNat) {j : Nat} (hj : j < ks.length) : ns.getD (Int.toNat (j : Int)) 0 = (ks[j]'hj : Nat) := by
  subst hks
  rw [Int.toNat_natCast, List.getD_eq_getElem?_getD, List.getElem?_map, List.getElem?_eq_getElem hj]
  rfl
theorem seg_at {ks : List Nat} {ns : List Int} (hks : ns = ks.map Int.ofNat) {i j : Nat} (hi : i ≤ j) (h1 : j ≤ i + (seg ks i).length) (hj : j < ks.length) (h : ns.getD (Int.toNat (j : Int)) 0 = 10) : j = i + (seg ks i).length := by
  rw [ns_get hks hj] at h
  false_or_by_contra
  rename_i q
  obtain ⟨c, hc, hne⟩ := tw_in (ks.drop i) (j - i) (by unfold seg at h1 q; omega)
  rw [List.getElem?_drop, show i + (j - i) = j from by omega, List.getElem?_eq_getElem hj] at hc
  have := Option.some.inj hc
  omega
theorem seg_next {ks : List Nat} {ns : List Int} (hks : ns = ks.map Int.ofNat) {i j : Nat} (hi : i ≤ j) (h1 : j ≤ i + (seg ks i).length) (hj : j < ks.length) (h : ns.getD (Int.toNat (j : Int)) 0 ≠ 10) : j + 1 ≤ i + (seg ks i).length := by
  rw [ns_get hks hj] at h
  false_or_by_contra
  rename_i q
  have e : j - i = (seg ks i).length := by omega
  have hc : (ks.drop i)[(seg ks i).length]? = some (ks[j]'hj) := by rw [List.getElem?_drop, show i + (seg ks i).length = j from by omega, List.getElem?_eq_getElem hj]
  have := tw_out (ks.drop i) _ hc
  omega
theorem rowPre_next {ks : List Nat} {ns : List Int} (hks : ns = ks.map Int.ofNat) {i j : Nat} (hi : i ≤ j) (hj : j < ks.length) : rowPre ks i (j + 1) = rowPre ks i j ++ [⟨#[(ns.getD (Int.toNat (j : Int)) 0).toNat]⟩] := by
  rw [ns_get hks hj, Int.toNat_natCast]
  unfold rowPre signs'
  rw [show j + 1 - i = (j - i) + 1 from by omega, List.take_add_one, List.getElem?_drop, show i + (j - i) = j from by omega, List.getElem?_eq_getElem hj]
  simp
theorem rowPre_end (ks : List Nat) (i : Nat) : rowPre ks i (i + (seg ks i).length) = signs' (seg ks i) := by
  unfold rowPre
  rw [Nat.add_sub_cancel_left]
  have h : ∀ l : List Nat, l.take (l.takeWhile (· ≠ 10)).length = l.takeWhile (· ≠ 10) := by
    intro l
    induction l with
    | nil => rfl
    | cons a l ih =>
      by_cases ha : a = 10
      · subst ha; simp
      · rw [List.takeWhile_cons, if_pos (by simpa using ha), List.length_cons, List.take_succ_cons, ih]
  unfold seg
  rw [h]
theorem join_signs (l : List Nat) : Txt.join (Str.ofString "") (signs' l) = ⟨l.toArray⟩ := by
  show Builtin.Str.glued (Str.ofString "") (signs' l) = _
  rw [StrLaws.glued_eq_join]
  exact join_nil_signs ⟨l.toArray⟩


theorem row_ok {w : World} {dp un : Nat} {gd : Option (List Code)} {cn : Str} {cs : Scope} {a : Addr} {ccd : Value} {cl : List (Str × Addr)} {outer : List Env} {A₀ : Around} {base h₀ : Heap} {L : Addr} {m : Str → Option Value} {s : Shared} {Q E : Value → Shared → Prop} {mean : ExcName → Option Value} {mg mb : Str → Option Value}
    {x dx lc : Addr} {i : Nat} {b : Int} {k1 k2 k3 t1 t2 : Tok} {nl : Nat} {vs : List Value} {ks : List Nat} {ns : List Int} {rest : List (Addr × Obj)}
    (B : Below A₀ base outer h₀) (F : Fr h₀ L s.heap m) (X : (hd.heap_39 w.params).In h₀) (N : News h₀ L s.heap ((dx, rdD w lc i b k1 k2 k3 t1 t2) :: (x, instObj 99 dx) :: (lc, listOf vs.toArray nl) :: rest))
    (T : Top hd.view_39 (looseW hd.view_39 LS) mean mg mb h₀) (hk : cs.kind = .function)
    (hi : IntsAre vs ns) (hks : ns = ks.map Int.ofNat) (hlen : ns.length = ks.length) (hu0 : ∀ c ∈ ks, c < 1114112) (hn1 : ks.length ≤ 1000) (hi0 : i < ks.length)
    (hxd : @Ne Nat x dx) (hld : @Ne Nat lc dx) (hrest : ∀ p ∈ rest, p.1 ≠ dx)
    (hdp : dp + 20 < recursionLimit) (hu : un + 200 < cLine)
    (ret : ∀ (tr t1' t2' : Tok) (h' : Heap) (tk' : Nat), i + (seg ks i).length < ks.length →
      Fr h₀ L h' m → News h₀ L h' ((dx, rdD w lc (i + (seg ks i).length + 1 : Nat) i k1 k2 k3 t1' t2') :: (x, instObj 99 dx) :: (lc, listOf vs.toArray nl) :: rest) → Q (.str ⟨(seg ks i).toArray⟩ tr) { s with heap := h', toks := tk' })
    (exc : ∀ x h' tk' g, i + (seg ks i).length = ks.length → Fr h₀ L g m → RaisedF base g (envX cn cs L a ccd cl :: outer) x (Str.ofString "cut_off") ks.length (Str.ofString "") rest h' → g.UpToSlots h' → E (.ref x) { s with heap := h', toks := tk' }) :
    wpAny (model Challenge.rw_on0091_01.row.prog w) (ktrTop dp un gd cn cs L a ccd cl outer) (call (.ref 82) [.ref x]) Q E s := by
  k_with_none
  (k_with "w k_ne" => (refine neN ?_; (try dsimp only); with_reducible first | assumption | exact Ne.symm (by assumption) | exact Nat.ne_of_gt (by first | assumption | exact cj1 (by assumption) | exact ej2 (by assumption) | exact cj2 (by assumption) | exact ej3 (by assumption) | exact cj3 (by assumption) | exact ej4 (by assumption) | exact cj4 (by assumption) | exact ej5 (by assumption) | exact cj5 (by assumption) | exact ej6 (by assumption) | exact cj6 (by assumption) | exact ej7 (by assumption) | exact cj7 (by assumption) | exact ej8 (by assumption) | exact cj8 (by assumption) | exact ej9 (by assumption) | exact cj9 (by assumption) | exact ej10 (by assumption) | exact cj10 (by assumption) | exact ej11 (by assumption)) | exact Nat.ne_of_lt (by first | assumption | exact cj1 (by assumption) | exact ej2 (by assumption) | exact cj2 (by assumption) | exact ej3 (by assumption) | exact cj3 (by assumption) | exact ej4 (by assumption) | exact cj4 (by assumption) | exact ej5 (by assumption) | exact cj5 (by assumption) | exact ej6 (by assumption) | exact cj6 (by assumption) | exact ej7 (by assumption) | exact cj7 (by assumption) | exact ej8 (by assumption) | exact cj8 (by assumption) | exact ej9 (by assumption) | exact cj9 (by assumption) | exact ej10 (by assumption) | exact cj10 (by assumption) | exact ej11 (by assumption))))
  (k_with "w lt" => ((try dsimp only); with_reducible first | assumption | exact cj1 (by assumption) | exact ej2 (by assumption) | exact cj2 (by assumption) | exact ej3 (by assumption) | exact cj3 (by assumption) | exact ej4 (by assumption) | exact cj4 (by assumption) | exact ej5 (by assumption) | exact cj5 (by assumption) | exact ej6 (by assumption) | exact cj6 (by assumption) | exact ej7 (by assumption) | exact cj7 (by assumption) | exact ej8 (by assumption) | exact cj8 (by assumption) | exact ej9 (by assumption) | exact cj9 (by assumption) | exact ej10 (by assumption) | exact cj10 (by assumption) | exact ej11 (by assumption)))
  (k_with "w room" => first | exact Nat.le_of_ble_eq_true rfl | exact room0 (by assumption) rfl | exact room1 (by assumption) rfl | exact room2 (by assumption) rfl)
  (k_with "w size" => first | exact Nat.le_of_ble_eq_true rfl | exact Nat.le_trans (by with_reducible assumption) (Nat.le_of_ble_eq_true rfl))
  (k_with "w k_all" => with_reducible assumption)
  (k_with "w exec Raise some none" => (k_here; refine fe_raise rfl ?_))
  (k_with "w call ref" => (k_here; k_dflt (first | ((with_reducible show wpAny _ _ (call (Value.ref 52) [_, _, _]) _ _ _); refine fe_call3 (by k_asm) (by k_asm) (by k_asm) (by k_asm) (by k_asm) (by first | exact rfl | assumption) (by ktr_room) (by ktr_units) ?_; intro xww dxww tww esww cww vsww t1ww t2ww t3ww hww tkww Fww Nww l1ww l2ww l3ww e1ww e2ww e3ww; refine ⟨xww, some dxww, tww, rfl, (Nww _ (.tail _ (.head _))).1, by k_in, ?_⟩; (try k_sweep)) | ((with_reducible show wpAny _ _ (call (Value.ref 52) [_, _]) _ _ _); refine fe_call2 (by k_asm) (by k_asm) (by k_asm) (by k_asm) (by k_asm) (by first | exact rfl | assumption) (by ktr_room) (by ktr_units) ?_; intro xww dxww tww esww cww vsww t1ww t2ww t3ww hww tkww Fww Nww l1ww l2ww l3ww e1ww e2ww e3ww; refine ⟨xww, some dxww, tww, rfl, (Nww _ (.tail _ (.head _))).1, by k_in, ?_⟩; (try k_sweep)))))
  (k_with "w leaving ref" => (k_here; first | (refine fe_leave_first (by assumption) (by assumption) (by assumption) (by exact fe_ne1 (by assumption) (by assumption) (by assumption)) (by exact fe_ne2 (by assumption) (by assumption) (by assumption)) (by assumption) (by assumption) (by assumption) ?_; k_whole; intro hww Rww Uww; (try dsimp only at Rww Uww ⊢)) | (refine fe_leave_on (by assumption) (by assumption) (by assumption) (by assumption) ?_; k_whole; intro hww Rww Uww; (try dsimp only at Rww Uww ⊢))))
  (k_with "w exec While" => (k_here; k_dflt (refine row_loop (by with_reducible assumption) (by with_reducible assumption) (by assumption) (by assumption) (by assumption) ?_; k_whole); intro jww vlsww cntww t1ww hww tkww hj0ww hj1ww hSww hv0ww hw0ww hc0ww hc1ww Fww Nww; (try k_sweep)))
  (k_with "w call builtin:str.join" => (k_here; (with_reducible show wpAny _ _ (call (Value.builtin _) [Value.str _ _, Value.ref _]) _ _ _); k_dflt (refine join_listW (by is_list) (by with_reducible assumption) (by decide +kernel) (by with_reducible assumption) ?_; k_whole); intro _ _))
  revert X
  k_fill
  intro X
  refine wpAny_call ?_
  k_dflt cell_enter
  k_steps
  · have e := seg_len ks i (Nat.le_of_lt hi0)
    rename ((ns.length : Int) ≤ _) => hge
    rename (_ ≤ i + (seg ks i).length) => hle
    have e1 := Nat.le_antisymm (Nat.le_trans hle e) (show ks.length ≤ _ from by omega)
    subst e1
    exact exc _ _ _ _ (Nat.le_antisymm e hle) (by assumption) (RaisedF.sub (by assumption) fun p hp => .tail _ (.tail _ (.tail _ (.tail _ hp)))) (by assumption)
  · rename (¬ (ns.length : Int) ≤ _) => hlt
    rename (_ ≤ i + (seg ks i).length) => hle
    rename (i ≤ _) => hge
    rename StrsAre _ _ => hS
    rename (ns.getD _ 0 ≠ 10) => hne
    rename News _ _ _ _ => nE
    simp only [List.push_toArray] at nE
    exact ⟨_, _, _, _, _, seg_next hks hge hle (by omega) hne, by rw [rowPre_next hks hge (by omega)]; exact StrsAre.append' hS (.cons _ _ .nil), rfl, by assumption, nE⟩
  · rename (¬ (ns.length : Int) ≤ _) => hlt
    rename (_ ≤ i + (seg ks i).length) => hle
    rename (i ≤ _) => hge
    rename (ns.getD _ 0 = 10) => hne
    have e := seg_at hks hge hle (by omega) hne
    subst e
    rw [rowPre_end, join_signs]
    exact ret _ _ _ _ _ (by omega) (by with_reducible assumption) fun p hp => by
      rename News _ _ _ _ => nE
      exact nE p (.tail _ hp)
end Mine
end

section
open PySem PySem.W PySem.Spec PySem.Calls PyProof.Rows
namespace Mine
theorem w_off_C5 : True := by
  w_top off
  exact trivial
set_option maxRecDepth 100000
set_option maxHeartbeats 4000000

/-- the rows of a remark, read from place p to the end: none where the last row has no end -/
inductive Cmt (ks : List Nat) : Nat → Option (List Str) → Prop
  | stop {p : Nat} : ks.length ≤ p → Cmt ks p (some [])
  | cut {p : Nat} : p < ks.length → p + (seg ks p).length = ks.length → Cmt ks p none
  | row {p : Nat} {r : Option (List Str)} : p < ks.length → p + (seg ks p).length < ks.length → Cmt ks (p + (seg ks p).length + 1) r → Cmt ks p (r.map (⟨(seg ks p).toArray⟩ :: ·))

noncomputable def RcStep (Q : Flow → Shared → Prop) (h₀ : Heap) (L : Addr) (m₀ : Str → Option Value) (w : World) (lr dx lc : Addr) (k1 k2 k3 : Tok) (ks : List Nat) (i p : Nat) (more : List (Addr × Obj)) (s : Shared) (f : Flow) (s₃ : Shared) : Prop :=
  match f with
  | .ret v => Q (.ret v) s₃
  | .brk => Q .next s₃
  | _ => ∃ p' vls acc cnt b t1' t2' h' tk', p < p' ∧ p' ≤ ks.length ∧ StrsAre vls acc ∧ vls.length ≤ p' ∧ (∀ r, Cmt ks p' r → Cmt ks i (r.map (acc ++ ·))) ∧ s₃ = { s with heap := h', toks := tk' } ∧ Fr h₀ L h' m₀ ∧ News h₀ L h' ((lr, listOf vls.toArray cnt) :: (dx, rdD w lc (p' : Nat) b k1 k2 k3 t1' t2') :: more)

theorem rc_loop {prog : Program} {w : World} {A : Around} {E : Value → Shared → Prop} {Q : Flow → Shared → Prop} {s : Shared} {env : Env} {h₀ : Heap} {L : Addr} {test : Expr} {body : List Stmt} {pos : Pos} {m₀ : Str → Option Value}
    {lr dx lc : Addr} {i : Nat} {b : Int} {k1 k2 k3 t1 t2 : Tok} (ks : List Nat) {c0 : Nat} {more : List (Addr × Obj)}
    (F : Fr h₀ L s.heap m₀) (N : News h₀ L s.heap ((lr, listOf ([] : List Value).toArray c0) :: (dx, rdD w lc i b k1 k2 k3 t1 t2) :: more)) (hi0 : i ≤ ks.length)
    (turn : ∀ (p : Nat) (vls : List Value) acc cnt (b : Int) t1' t2' h₁ tk₁, p ≤ ks.length → StrsAre vls acc → vls.length ≤ p → (∀ r, Cmt ks p r → Cmt ks i (r.map (acc ++ ·))) →
      Fr h₀ L h₁ m₀ → News h₀ L h₁ ((lr, listOf vls.toArray cnt) :: (dx, rdD w lc p b k1 k2 k3 t1' t2') :: more) →
      wpAny (model prog w) A (isTrue test env (eval test env)) (fun bb s₂ => if bb = true then wpAny (model prog w) A (execs body env) (RcStep Q h₀ L m₀ w lr dx lc k1 k2 k3 ks i p more s) E s₂ else Q .next s₂) E { s with heap := h₁, toks := tk₁ })
    (hE : PassesOwn (model prog w) A env E := by passes_own) :
    wpAny (model prog w) A (exec (.While test body [] pos) env) Q E s := by
  refine While_inv2 (n₀ := ks.length - i) (fun n m₁ nx => m₁ = m₀ ∧ ∃ (p : Nat) (vls : List Value) (acc : List Str) (cnt : Nat) (b : Int) (t1' t2' : Tok), n = ks.length - p ∧ p ≤ ks.length ∧ StrsAre vls acc ∧ vls.length ≤ p ∧ (∀ r, Cmt ks p r → Cmt ks i (r.map (acc ++ ·))) ∧
    nx = (lr, listOf vls.toArray cnt) :: (dx, rdD w lc p b k1 k2 k3 t1' t2') :: more) F N ⟨rfl, i, [], [], c0, b, t1, t2, rfl, hi0, .nil, Nat.zero_le _, (fun r h => by cases r <;> exact h), rfl⟩ ?_ hE
  rintro n m₁ nx h₁ tk₁ F₁ N₁ ⟨rfl, p, vls, acc, cnt, b', t1', t2', rfl, hp, hS, hv, hC, rfl⟩
  refine wpAny_mono (turn p vls acc cnt b' t1' t2' h₁ tk₁ hp hS hv hC F₁ N₁) (fun bb s₂ p => ?_) fun _ _ x => x
  cases bb with
  | false => simpa using p
  | true =>
    simp only [if_true] at p ⊢
    refine wpAny_mono p (fun f s₃ q => ?_) fun _ _ x => x
    cases f with
    | ret v => exact q
    | brk => exact q
    | next =>
      obtain ⟨p', vls', acc', cnt', b', t1'', t2'', h', tk', h1, h2, hS', hv', hC', rfl, F', N'⟩ := q
      exact ⟨h', tk', _, _, ks.length - p', rfl, F', N', by omega, rfl, p', vls', acc', cnt', b', t1'', t2'', rfl, h2, hS', hv', hC', rfl⟩
    | cont =>
      obtain ⟨p', vls', acc', cnt', b', t1'', t2'', h', tk', h1, h2, hS', hv', hC', rfl, F', N'⟩ := q
      exact ⟨h', tk', _, _, ks.length - p', rfl, F', N', by omega, rfl, p', vls', acc', cnt', b', t1'', t2'', rfl, h2, hS', hv', hC', rfl⟩

theorem news_rot {h₀ h : Heap} {L : Addr} {r a b c : Addr × Obj} {rest : List (Addr × Obj)} (N : News h₀ L h (r :: a :: b :: c :: rest)) : News h₀ L h (a :: b :: c :: r :: rest) := fun p hp => N p (by
  simp only [List.mem_cons] at hp ⊢
  rcases hp with h | h | h | h | h
  · exact .inr (.inl h)
  · exact .inr (.inr (.inl h))
  · exact .inr (.inr (.inr (.inl h)))
  · exact .inl h
  · exact .inr (.inr (.inr (.inr h))))
theorem news_rot' {h₀ h : Heap} {L : Addr} {r a b c : Addr × Obj} {rest : List (Addr × Obj)} (N : News h₀ L h (a :: b :: c :: r :: rest)) : News h₀ L h (r :: a :: b :: c :: rest) := fun p hp => N p (by
  simp only [List.mem_cons] at hp ⊢
  rcases hp with h | h | h | h | h
  · exact .inr (.inr (.inr (.inl h)))
  · exact .inl h
  · exact .inr (.inl h)
  · exact .inr (.inr (.inl h))
  · exact .inr (.inr (.inr (.inr h))))


theorem rc_ok {w : World} {dp un : Nat} {gd : Option (List Code)} {cn : Str} {cs : Scope} {a : Addr} {ccd : Value} {cl : List (Str × Addr)} {outer : List Env} {A₀ : Around} {base h₀ : Heap} {L : Addr} {m : Str → Option Value} {s : Shared} {Q E : Value → Shared → Prop} {mean : ExcName → Option Value} {mg mb : Str → Option Value}
    {x dx lc : Addr} {i : Nat} {b : Int} {k1 k2 k3 t1 t2 : Tok} {nl : Nat} {vs : List Value} {ks : List Nat} {ns : List Int} {rest : List (Addr × Obj)}
    (B : Below A₀ base outer h₀) (F : Fr h₀ L s.heap m) (X : (hd.heap_39 w.params).In h₀) (N : News h₀ L s.heap ((dx, rdD w lc i b k1 k2 k3 t1 t2) :: (x, instObj 99 dx) :: (lc, listOf vs.toArray nl) :: rest))
    (T : Top hd.view_39 (looseW hd.view_39 LS) mean mg mb h₀) (hk : cs.kind = .function)
    (hi : IntsAre vs ns) (hks : ns = ks.map Int.ofNat) (hlen : ns.length = ks.length) (hu0 : ∀ c ∈ ks, c < 1114112) (hn1 : ks.length ≤ 1000) (hi0 : i ≤ ks.length)
    (hxd : @Ne Nat x dx) (hld : @Ne Nat lc dx) (hrest : ∀ p ∈ rest, p.1 ≠ dx)
    (hdp : dp + 40 < recursionLimit) (hu : un + 400 < cLine)
    (ret : ∀ (rows : List Str) (vls : List Value) (t : Addr) (c : Nat) (h' : Heap) (tk' : Nat), Cmt ks i (some rows) → StrsAre vls rows → rows.length ≤ 1000 →
      Fr h₀ L h' m → News h₀ L h' ((t, ({ cls := .type "tuple", data := .seq vls.toArray c } : Obj)) :: rest) → Q (.ref t) { s with heap := h', toks := tk' })
    (exc : ∀ x h' tk' g, Cmt ks i none → Fr h₀ L g m → RaisedF base g (envX cn cs L a ccd cl :: outer) x (Str.ofString "cut_off") ks.length (Str.ofString "") rest h' → g.UpToSlots h' → E (.ref x) { s with heap := h', toks := tk' }) :
    wpAny (model Challenge.rw_on0091_01.row.prog w) (ktrTop dp un gd cn cs L a ccd cl outer) (call (.ref 124) [.ref x]) Q E s := by
  k_with_none
  (k_with "w k_ne" => (refine neN ?_; (try dsimp only); with_reducible first | assumption | exact Ne.symm (by assumption) | exact Nat.ne_of_gt (by first | assumption | exact cj1 (by assumption) | exact ej2 (by assumption) | exact cj2 (by assumption) | exact ej3 (by assumption) | exact cj3 (by assumption) | exact ej4 (by assumption) | exact cj4 (by assumption) | exact ej5 (by assumption) | exact cj5 (by assumption) | exact ej6 (by assumption) | exact cj6 (by assumption) | exact ej7 (by assumption) | exact cj7 (by assumption) | exact ej8 (by assumption) | exact cj8 (by assumption) | exact ej9 (by assumption) | exact cj9 (by assumption) | exact ej10 (by assumption) | exact cj10 (by assumption) | exact ej11 (by assumption)) | exact Nat.ne_of_lt (by first | assumption | exact cj1 (by assumption) | exact ej2 (by assumption) | exact cj2 (by assumption) | exact ej3 (by assumption) | exact cj3 (by assumption) | exact ej4 (by assumption) | exact cj4 (by assumption) | exact ej5 (by assumption) | exact cj5 (by assumption) | exact ej6 (by assumption) | exact cj6 (by assumption) | exact ej7 (by assumption) | exact cj7 (by assumption) | exact ej8 (by assumption) | exact cj8 (by assumption) | exact ej9 (by assumption) | exact cj9 (by assumption) | exact ej10 (by assumption) | exact cj10 (by assumption) | exact ej11 (by assumption))))
  (k_with "w lt" => ((try dsimp only); with_reducible first | assumption | exact cj1 (by assumption) | exact ej2 (by assumption) | exact cj2 (by assumption) | exact ej3 (by assumption) | exact cj3 (by assumption) | exact ej4 (by assumption) | exact cj4 (by assumption) | exact ej5 (by assumption) | exact cj5 (by assumption) | exact ej6 (by assumption) | exact cj6 (by assumption) | exact ej7 (by assumption) | exact cj7 (by assumption) | exact ej8 (by assumption) | exact cj8 (by assumption) | exact ej9 (by assumption) | exact cj9 (by assumption) | exact ej10 (by assumption) | exact cj10 (by assumption) | exact ej11 (by assumption)))
  (k_with "w room" => first | exact Nat.le_of_ble_eq_true rfl | exact room0 (by assumption) rfl | exact room1 (by assumption) rfl | exact room2 (by assumption) rfl)
  (k_with "w size" => first | exact Nat.le_of_ble_eq_true rfl | exact Nat.le_trans (by with_reducible assumption) (Nat.le_of_ble_eq_true rfl))
  (k_with "w k_all" => with_reducible assumption)
  (k_with "w leaving ref" => (k_here; first | (refine fe_leave_on (by assumption) (by assumption) (by assumption) (by assumption) ?_; k_whole; intro hww Rww Uww; (try dsimp only at Rww Uww ⊢))))
  (k_with "w exec While" => (k_here; k_dflt (refine rc_loop _ (by with_reducible assumption) (by with_reducible assumption) (by assumption) ?_; k_whole); intro pww vlsww accww cntww bww t1ww t2ww hww tkww hp0ww hSww hv0ww hCww Fww Nww; (try k_sweep)))
  (k_with "w call ref" => (k_here; k_dflt ( (with_reducible show wpAny _ _ (call (Value.ref 82) _) _ _ _); refine row_ok (by k_asm) (by k_asm) (by k_asm) (by exact news_rot (by with_reducible assumption)) (by k_asm) (by first | exact rfl | assumption) (by assumption) (by assumption) (by assumption) (by assumption) (by assumption) (by omega) (by assumption) (by assumption) (by k_all) (by ktr_room) (by ktr_units) ?_ ?_; first | (intro trww t1ww t2ww hww tkww hltww Fww Nww; (replace Nww := news_rot' Nww); (try k_sweep)) | (intro xeww hww tkww gww heqww FGww Rww Uww; (try k_sweep)))))
  revert X
  k_fill
  intro X
  refine wpAny_call ?_
  k_dflt cell_enter
  k_steps
  · rename ((ns.length : Int) ≤ _) => hge
    rename StrsAre _ _ => hS
    rename (∀ r, Cmt ks _ r → Cmt ks i _) => hC
    rename News h₀ _ _ _ => nE
    refine ret _ _ _ 0 _ _ (hC _ (.stop (by omega))) (by simpa using hS) ?_ (by with_reducible assumption) fun p hp => nE p ?_
    · have := hS.length
      rw [List.length_append, List.length_nil]
      omega
    · rcases List.mem_cons.mp hp with rfl | hp
      · exact .head _
      · exact .tail _ (.tail _ (.tail _ (.tail _ (.tail _ hp))))
  · rename (¬ (ns.length : Int) ≤ _) => hlt
    rename StrsAre _ _ => hS
    rename (∀ r, Cmt ks _ r → Cmt ks i _) => hC
    rename (_ + (seg ks _).length < ks.length) => hlt2
    rename News _ _ _ _ => nE
    simp only [List.push_toArray] at nE
    refine ⟨_, _, _, _, _, _, _, _, _, ?_, ?_, StrsAre.append' hS (.cons _ _ .nil), ?_, ?_, rfl, by assumption, nE⟩
    · omega
    · omega
    · rw [List.length_append, List.length_singleton]
      omega
    · intro r hr
      have := hC _ (.row (by omega) hlt2 hr)
      cases r with
      | none => exact this
      | some l => simpa using this
  · rename (∀ r, Cmt ks _ r → Cmt ks i _) => hC
    exact exc _ _ _ _ (hC none (.cut (by omega) (by assumption))) (by assumption) (RaisedF.sub (by assumption) fun p hp => .tail _ hp) (by assumption)
end Mine
end

section
open PySem PySem.W PySem.Spec PySem.Calls PyProof.Rows
namespace Mine
theorem w_off_C7 : True := by
  w_top off
  exact trivial
set_option maxRecDepth 100000
set_option maxHeartbeats 4000000

noncomputable abbrev Spc : Str := Str.ofString " "
/-- a row cut once, at its first blank -/
noncomputable def cut1 (r : Str) : List Str := Txt.splitMax r Spc 1
theorem cut1_two (r : Str) : (∃ a, cut1 r = [a]) ∨ ∃ a b, cut1 r = [a, b] := by
  have h1 : 1 ≤ (cut1 r).length := splitMax_pos r Spc 1
  have h2 : (cut1 r).length ≤ 2 := by
    unfold cut1 Txt.splitMax
    split
    · exact Nat.le_succ 1
    · split
      · exact Nat.le_succ 1
      · rw [length_partsBetween]
        have := StrLaws.occ_length_le r Spc 0 r.length (limitOf r 1)
        have e : limitOf r 1 = 1 := rfl
        omega
  generalize cut1 r = l at *
  match l, h1, h2 with
  | [a], _, _ => exact .inl ⟨a, rfl⟩
  | [a, b], _, _ => exact .inr ⟨a, b, rfl⟩
  | _ :: _ :: _ :: _, _, h => simp at h

theorem split_one {prog : Program} {w : World} {A : Around} {E : Value → Shared → Prop} {s : Shared} {x : Str} {t u v : Tok} {h₀ : Heap} {L : Addr} {m : Str → Option Value} {news : List (Addr × Obj)} {Q : Value → Shared → Prop}
    (hF : Fr h₀ L s.heap m) (hN : News h₀ L s.heap news) (hsz : x.length ≤ 1000)
    (h1 : ∀ a ta D h' tk, cut1 x = [a] → a.length ≤ x.length → Fr h₀ L h' m → News h₀ L h' ((D, listOf [Value.str a ta].toArray 0) :: news) → (∀ p ∈ news, p.1 < D) → Q (.ref D) { s with heap := h', toks := tk })
    (h2 : ∀ a ta b tb D h' tk, cut1 x = [a, b] → a.length ≤ x.length → b.length ≤ x.length → Fr h₀ L h' m → News h₀ L h' ((D, listOf [Value.str a ta, Value.str b tb].toArray 0) :: news) → (∀ p ∈ news, p.1 < D) → Q (.ref D) { s with heap := h', toks := tk }) :
    wpAny (model prog w) A (call (.builtin "str.split") [.str x t, .str Spc u, .int 1 v]) Q E s := by
  refine splitN2A hF hN (by decide) (by decide) (fun l h' tk e hS hl _ F N => ?_) (by rw [sizeLine_eq]; omega)
  have lt : ∀ p ∈ news, p.1 < s.heap.objs.size := fun p hp => Heap.lt_size (hN p hp).1
  rcases cut1_two x with ⟨a, ha⟩ | ⟨a, b, ha⟩
  · have e' := e.trans ha
    match l, e' with
    | [(_, ta)], e' =>
      have := (List.cons.inj e').1
      dsimp only at this
      subst this
      exact h1 _ ta _ h' tk ha (hl _ (.head _)) F N lt
  · have e' := e.trans ha
    match l, e' with
    | [(_, ta), (_, tb)], e' =>
      obtain ⟨q1, q2⟩ := List.cons.inj e'
      have q3 := (List.cons.inj q2).1
      dsimp only at q1 q3
      subst q1 q3
      exact h2 _ ta _ tb _ h' tk ha (hl _ (.head _)) (hl _ (.tail _ (.head _))) F N lt

/-- the table of sizes -/
noncomputable def szD : List (PyData × PyData) := [(.str (Str.ofString "i"), .int 2), (.str (Str.ofString "l"), .int 1), (.str (Str.ofString "o"), .int 3)]
/-- what read_names gives back: the names and the remark's rows, or the first fault -/
inductive Res where
  | ok (nm : List (Str × Int × Str)) (rows : List Str)
  | err (kind : Str) (at_ : Int) (det : Str)
noncomputable def datName (n : Str × Int × Str) : Dat := .tuple [.str n.1, .int n.2.1, .str n.2.2]

noncomputable def RnStep (I : Nat → List (Str × Int × Str) → Prop) (Q : Flow → Shared → Prop) (h₀ : Heap) (L : Addr) (m₀ : Str → Option Value) (w : World) (lr dx x lc dz : Addr) (ox oc oz : Obj) (k1 k2 k3 : Tok) (ks : List Nat) (i p : Nat) (rest : List (Addr × Obj)) (s : Shared) (f : Flow) (s₃ : Shared) : Prop :=
  match f with
  | .ret v => Q (.ret v) s₃
  | .brk => Q .next s₃
  | _ => ∃ p' vls, ∃ nm : List (Str × Int × Str), ∃ cnt b t1' t2' tl h' tk' m', p < p' ∧ p' ≤ ks.length ∧ DatAll tl vls (nm.map datName) ∧ vls.length ≤ p' ∧ I p' nm ∧ (∀ q ∈ tl ++ rest, q.1 ≠ lr) ∧ (∀ q ∈ tl ++ rest, q.1 ≠ dx) ∧ s₃ = { s with heap := h', toks := tk' } ∧
      Fr h₀ L h' m' ∧ (∀ z, [Str.ofString "row", Str.ofString "parts", Str.ofString "kind", Str.ofString "place"].contains z = false → m' z = m₀ z) ∧
      News h₀ L h' ((lr, listOf vls.toArray cnt) :: (dx, rdD w lc (p' : Nat) b k1 k2 k3 t1' t2') :: (x, ox) :: (lc, oc) :: (dz, oz) :: (tl ++ rest))

theorem rn_loop {prog : Program} {w : World} {A : Around} {E : Value → Shared → Prop} {Q : Flow → Shared → Prop} {s : Shared} {env : Env} {h₀ : Heap} {L : Addr} {test : Expr} {body : List Stmt} {pos : Pos} {m₀ : Str → Option Value} (I : Nat → List (Str × Int × Str) → Prop)
    {lr dx x lc dz : Addr} {ox oc oz : Obj} {i : Nat} {b : Int} {k1 k2 k3 t1 t2 : Tok} (ks : List Nat) {c0 : Nat} {rest : List (Addr × Obj)}
    (F : Fr h₀ L s.heap m₀) (N : News h₀ L s.heap ((lr, listOf ([] : List Value).toArray c0) :: (dx, rdD w lc i b k1 k2 k3 t1 t2) :: (x, ox) :: (lc, oc) :: (dz, oz) :: rest)) (hi0 : i ≤ ks.length) (hI : I i [])
    (hr1 : ∀ q ∈ rest, q.1 ≠ lr) (hr2 : ∀ q ∈ rest, q.1 ≠ dx)
    (turn : ∀ (p : Nat) (vls : List Value) (nm : List (Str × Int × Str)) cnt (b : Int) t1' t2' (tl : List (Addr × Obj)) h₁ tk₁ (u : Str → Option Value), p ≤ ks.length → DatAll tl vls (nm.map datName) → vls.length ≤ p → I p nm → (∀ q ∈ tl ++ rest, q.1 ≠ lr) → (∀ q ∈ tl ++ rest, q.1 ≠ dx) →
      Fr h₀ L h₁ (fun z => if [Str.ofString "row", Str.ofString "parts", Str.ofString "kind", Str.ofString "place"].contains z = true then u z else m₀ z) →
      News h₀ L h₁ ((lr, listOf vls.toArray cnt) :: (dx, rdD w lc p b k1 k2 k3 t1' t2') :: (x, ox) :: (lc, oc) :: (dz, oz) :: (tl ++ rest)) →
      wpAny (model prog w) A (isTrue test env (eval test env)) (fun bb s₂ => if bb = true then wpAny (model prog w) A (execs body env) (RnStep I Q h₀ L m₀ w lr dx x lc dz ox oc oz k1 k2 k3 ks i p rest s) E s₂ else Q .next s₂) E { s with heap := h₁, toks := tk₁ })
    (hE : PassesOwn (model prog w) A env E := by passes_own) :
    wpAny (model prog w) A (exec (.While test body [] pos) env) Q E s := by
  refine While_inv2 (n₀ := ks.length - i) (fun n m₁ nx => (∀ z, [Str.ofString "row", Str.ofString "parts", Str.ofString "kind", Str.ofString "place"].contains z = false → m₁ z = m₀ z) ∧ ∃ (p : Nat) (vls : List Value) (nm : List (Str × Int × Str)) (cnt : Nat) (b : Int) (t1' t2' : Tok) (tl : List (Addr × Obj)), n = ks.length - p ∧ p ≤ ks.length ∧ DatAll tl vls (nm.map datName) ∧ vls.length ≤ p ∧ I p nm ∧
    (∀ q ∈ tl ++ rest, q.1 ≠ lr) ∧ (∀ q ∈ tl ++ rest, q.1 ≠ dx) ∧ nx = (lr, listOf vls.toArray cnt) :: (dx, rdD w lc p b k1 k2 k3 t1' t2') :: (x, ox) :: (lc, oc) :: (dz, oz) :: (tl ++ rest)) F N
    ⟨fun _ _ => rfl, i, [], [], c0, b, t1, t2, [], rfl, hi0, .nil, Nat.zero_le _, hI, hr1, hr2, rfl⟩ ?_ hE
  rintro n m₁ nx h₁ tk₁ F₁ N₁ ⟨hm, p, vls, nm, cnt, b', t1', t2', tl, rfl, hp, hS, hv, hI', a1, a2, rfl⟩
  have em : (fun z => if [Str.ofString "row", Str.ofString "parts", Str.ofString "kind", Str.ofString "place"].contains z = true then m₁ z else m₀ z) = m₁ := by
    funext z
    cases h : [Str.ofString "row", Str.ofString "parts", Str.ofString "kind", Str.ofString "place"].contains z with
    | true => rfl
    | false => exact (hm z h).symm
  refine wpAny_mono (turn p vls nm cnt b' t1' t2' tl h₁ tk₁ m₁ hp hS hv hI' a1 a2 (by rw [em]; exact F₁) N₁) (fun bb s₂ p => ?_) fun _ _ x => x
  cases bb with
  | false => simpa using p
  | true =>
    simp only [if_true] at p ⊢
    refine wpAny_mono p (fun f s₃ q => ?_) fun _ _ x => x
    cases f with
    | ret v => exact q
    | brk => exact q
    | next =>
      obtain ⟨p', vls', nm', cnt', b', t1'', t2'', tl', h', tk', m', h1, h2, hS', hv', hI'', a1', a2', rfl, F', hm', N'⟩ := q
      exact ⟨h', tk', _, _, ks.length - p', rfl, F', N', by omega, hm', p', vls', nm', cnt', b', t1'', t2'', tl', rfl, h2, hS', hv', hI'', a1', a2', rfl⟩
    | cont =>
      obtain ⟨p', vls', nm', cnt', b', t1'', t2'', tl', h', tk', m', h1, h2, hS', hv', hI'', a1', a2', rfl, F', hm', N'⟩ := q
      exact ⟨h', tk', _, _, ks.length - p', rfl, F', N', by omega, hm', p', vls', nm', cnt', b', t1'', t2'', tl', rfl, h2, hS', hv', hI'', a1', a2', rfl⟩
end Mine
end

section
open PySem PySem.W PySem.Spec PySem.Calls PyProof.Rows
namespace Mine
theorem w_off_C8 : True := by
  w_top off
  exact trivial
set_option maxRecDepth 100000
set_option maxHeartbeats 4000000

/-! ## what read_names reads, plainly -/
noncomputable abbrev rowAt (ks : List Nat) (p : Nat) : Str := ⟨(seg ks p).toArray⟩
noncomputable abbrev kindOf (r : Str) : Str := Txt.slice r none (some 1)
noncomputable def kindOk (r : Str) : Bool := (PySem.Spec.lookup (PyData.str (kindOf r)) szD).isSome
noncomputable def szOf (r : Str) : Int := match PySem.Spec.lookup (PyData.str (kindOf r)) szD with | some (.int n) => n | _ => 0
noncomputable def line (r : Str) : Except (Str × Str) (Str × Int × Str) :=
  match cut1 r with
  | [a, b] => if kindOk r then (if wnBad (Txt.slice a (some 1) none) then .error (Str.ofString "bad_number", Txt.slice a (some 1) none)
      else if szOf r ≤ wnVal (Txt.slice a (some 1) none) then .error (Str.ofString "bad_name", Str.ofString "") else .ok (kindOf r, wnVal (Txt.slice a (some 1) none), b)) else .error (Str.ofString "bad_row", Str.ofString "")
  | _ => .error (Str.ofString "bad_row", Str.ofString "")
noncomputable def Res.pre (nm : List (Str × Int × Str)) : Res → Res
  | .ok l rows => .ok (nm ++ l) rows
  | .err k a d => .err k a d
theorem Res.pre_nil (r : Res) : r.pre [] = r := by cases r <;> rfl
theorem Res.pre_pre (a b : List (Str × Int × Str)) (r : Res) : (r.pre b).pre a = r.pre (a ++ b) := by
  cases r with
  | ok l rows => show Res.ok (a ++ (b ++ l)) rows = Res.ok (a ++ b ++ l) rows; rw [List.append_assoc]
  | err => rfl
inductive Names (ks : List Nat) : Nat → Res → Prop
  | stop {p : Nat} : ks.length ≤ p → Names ks p (.ok [] [])
  | cut {p : Nat} : p < ks.length → p + (seg ks p).length = ks.length → Names ks p (.err (Str.ofString "cut_off") ks.length (Str.ofString ""))
  | cOk {p : Nat} {rows : List Str} : p < ks.length → p + (seg ks p).length < ks.length → (rowAt ks p == Str.ofString "c") = true → Cmt ks (p + (seg ks p).length + 1) (some rows) → Names ks p (.ok [] rows)
  | cCut {p : Nat} : p < ks.length → p + (seg ks p).length < ks.length → (rowAt ks p == Str.ofString "c") = true → Cmt ks (p + (seg ks p).length + 1) none → Names ks p (.err (Str.ofString "cut_off") ks.length (Str.ofString ""))
  | bad {p : Nat} {k d : Str} : p < ks.length → p + (seg ks p).length < ks.length → (rowAt ks p == Str.ofString "c") = false → line (rowAt ks p) = .error (k, d) → Names ks p (.err k p d)
  | name {p : Nat} {n : Str × Int × Str} {r : Res} : p < ks.length → p + (seg ks p).length < ks.length → (rowAt ks p == Str.ofString "c") = false → line (rowAt ks p) = .ok n → Names ks (p + (seg ks p).length + 1) r → Names ks p (r.pre [n])

theorem sz_some {r : Str} (h : (PySem.Spec.lookup (PyData.str (kindOf r)) szD).isSome = true) : PySem.Spec.lookup (PyData.str (kindOf r)) szD = some (.int (szOf r)) := by
  unfold szOf
  cases e : PySem.Spec.lookup (PyData.str (kindOf r)) szD with
  | none => rw [e] at h; cases h
  | some d =>
    have : ∃ n, d = .int n := by
      unfold szD at e
      simp only [PySem.Spec.lookup] at e
      split at e
      · exact ⟨_, (Option.some.inj e).symm⟩
      · split at e
        · exact ⟨_, (Option.some.inj e).symm⟩
        · split at e
          · exact ⟨_, (Option.some.inj e).symm⟩
          · cases e
    obtain ⟨n, rfl⟩ := this
    rfl
theorem seg_short {ks : List Nat} {i : Nat} (hn1 : ks.length ≤ 1000) (hi : i + (seg ks i).length < ks.length) : (⟨(seg ks i).toArray⟩ : Str).length ≤ 1000 := by
  show (seg ks i).toArray.size ≤ 1000
  rw [List.size_toArray]
  omega
theorem line_row1 {r : Str} (h : kindOk r = false) : line r = .error (Str.ofString "bad_row", Str.ofString "") := by
  unfold line
  rcases cut1_two r with ⟨a, ha⟩ | ⟨a, b, ha⟩
  · rw [ha]
  · rw [ha]
    dsimp only
    rw [h]
    rfl
theorem line_row2 {r a : Str} (h : cut1 r = [a]) : line r = .error (Str.ofString "bad_row", Str.ofString "") := by
  unfold line
  rw [h]
theorem line_num {r a b : Str} (h : cut1 r = [a, b]) (h1 : kindOk r = true) (h2 : wnBad (Txt.slice a (some 1) none) = true) : line r = .error (Str.ofString "bad_number", Txt.slice a (some 1) none) := by
  unfold line
  rw [h]
  dsimp only
  rw [if_pos h1, if_pos h2]
theorem line_name {r a b : Str} (h : cut1 r = [a, b]) (h1 : kindOk r = true) (h2 : wnBad (Txt.slice a (some 1) none) = false) (h3 : szOf r ≤ wnVal (Txt.slice a (some 1) none)) : line r = .error (Str.ofString "bad_name", Str.ofString "") := by
  unfold line
  rw [h]
  dsimp only
  rw [if_pos h1, h2, if_neg (by decide), if_pos h3]
theorem line_ok {r a b : Str} (h : cut1 r = [a, b]) (h1 : kindOk r = true) (h2 : wnBad (Txt.slice a (some 1) none) = false) (h3 : ¬ szOf r ≤ wnVal (Txt.slice a (some 1) none)) : line r = .ok (kindOf r, wnVal (Txt.slice a (some 1) none), b) := by
  unfold line
  rw [h]
  dsimp only
  rw [if_pos h1, h2, if_neg (by decide), if_neg h3]
noncomputable def RnI (ks : List Nat) (i p : Nat) (nm : List (Str × Int × Str)) : Prop := ∀ r, Names ks p r → Names ks i (r.pre nm)
theorem RnI.start (ks : List Nat) (i : Nat) : RnI ks i i [] := fun r h => by rw [Res.pre_nil]; exact h
theorem rn_loopN {prog : Program} {w : World} {A : Around} {E : Value → Shared → Prop} {Q : Flow → Shared → Prop} {s : Shared} {env : Env} {h₀ : Heap} {L : Addr} {test : Expr} {body : List Stmt} {pos : Pos} {m₀ : Str → Option Value}
    {lr dx x lc dz : Addr} {ox oc oz : Obj} {i : Nat} {b : Int} {k1 k2 k3 t1 t2 : Tok} {ks : List Nat} {c0 : Nat} {rest : List (Addr × Obj)}
    (F : Fr h₀ L s.heap m₀) (N : News h₀ L s.heap ((lr, listOf ([] : List Value).toArray c0) :: (dx, rdD w lc i b k1 k2 k3 t1 t2) :: (x, ox) :: (lc, oc) :: (dz, oz) :: rest)) (hi0 : i ≤ ks.length)
    (hr1 : ∀ q ∈ rest, q.1 ≠ lr) (hr2 : ∀ q ∈ rest, q.1 ≠ dx)
    (turn : ∀ (p : Nat) (vls : List Value) (nm : List (Str × Int × Str)) cnt (b : Int) t1' t2' (tl : List (Addr × Obj)) h₁ tk₁ (u : Str → Option Value), p ≤ ks.length → DatAll tl vls (nm.map datName) → vls.length ≤ p → RnI ks i p nm → (∀ q ∈ tl ++ rest, q.1 ≠ lr) → (∀ q ∈ tl ++ rest, q.1 ≠ dx) →
      Fr h₀ L h₁ (fun z => if [Str.ofString "row", Str.ofString "parts", Str.ofString "kind", Str.ofString "place"].contains z = true then u z else m₀ z) →
      News h₀ L h₁ ((lr, listOf vls.toArray cnt) :: (dx, rdD w lc p b k1 k2 k3 t1' t2') :: (x, ox) :: (lc, oc) :: (dz, oz) :: (tl ++ rest)) →
      wpAny (model prog w) A (isTrue test env (eval test env)) (fun bb s₂ => if bb = true then wpAny (model prog w) A (execs body env) (RnStep (RnI ks i) Q h₀ L m₀ w lr dx x lc dz ox oc oz k1 k2 k3 ks i p rest s) E s₂ else Q .next s₂) E { s with heap := h₁, toks := tk₁ })
    (hE : PassesOwn (model prog w) A env E := by passes_own) :
    wpAny (model prog w) A (exec (.While test body [] pos) env) Q E s := by
  exact rn_loop (RnI ks i) ks F N hi0 (RnI.start ks i) hr1 hr2 turn hE

theorem news_ne {h₀ h : Heap} {L a b : Addr} {o o' : Obj} {news : List (Addr × Obj)} (N : News h₀ L h news) (h1 : (a, o) ∈ news) (h2 : (b, o') ∈ news) (hc : o.cls ≠ o'.cls) : a ≠ b := fun e => by
  subst e
  have := (N _ h1).1.symm.trans (N _ h2).1
  exact hc (congrArg (·.cls) (Option.some.inj this))
theorem rc_led {h₀ h : Heap} {L : Addr} {a r d x c z : Addr × Obj} {tl : List (Addr × Obj)} (N : News h₀ L h (a :: r :: d :: x :: c :: z :: tl)) : News h₀ L h (d :: x :: c :: a :: tl) := fun p hp => N p (by
  simp only [List.mem_cons] at hp ⊢
  rcases hp with h | h | h | h | h <;> simp [h])
theorem rc_off {h₀ h : Heap} {L : Addr} {a r d x c z : Addr × Obj} {tl : List (Addr × Obj)} (N : News h₀ L h (a :: r :: d :: x :: c :: z :: tl)) (hc : a.2.cls ≠ d.2.cls) (ht : ∀ p ∈ tl, p.1 ≠ d.1) : ∀ p ∈ a :: tl, p.1 ≠ d.1 := fun p hp => by
  rcases List.mem_cons.mp hp with rfl | hp
  · exact news_ne N (.head _) (.tail _ (.tail _ (.head _))) hc
  · exact ht p hp



theorem dat_rows {tl : List (Addr × Obj)} : ∀ {vls : List Value} {rows : List Str}, StrsAre vls rows → DatAll tl vls (rows.map Dat.str)
  | _, _, .nil => .nil
  | _, _, .cons y t h => .cons (.str y t) (dat_rows h)

theorem Res.pre_ok (nm : List (Str × Int × Str)) (rows : List Str) : (Res.ok [] rows).pre nm = .ok nm rows := by
  show Res.ok (nm ++ []) rows = _
  rw [List.append_nil]
theorem rn_close {D D1 D2 : Addr} {c : Nat} {vls rv : List Value} {tl : List (Addr × Obj)} {nm : List (Str × Int × Str)} {rows : List Str} (hS : DatAll tl vls (nm.map datName)) (hR : StrsAre rv rows) :
    DatIn ((D2, { cls := .type "tuple", data := .seq #[.ref D, .ref D1] }) :: (D1, { cls := .type "tuple", data := .seq rv.toArray c }) :: (D, { cls := .type "tuple", data := .seq vls.toArray }) :: tl) (.ref D2) (.tuple [.tuple (nm.map datName), .tuple (rows.map .str)]) :=
  .tuple (vs := [.ref D, .ref D1]) (.head _) (.cons (.tuple (.tail _ (.tail _ (.head _))) (hS.mono fun _ h => .tail _ (.tail _ (.tail _ h)))) (.cons (.tuple (.tail _ (.head _)) (dat_rows hR)) .nil))
theorem rn_sub {h₀ h : Heap} {L : Addr} {a b c y1 y2 y3 y4 y5 : Addr × Obj} {tl rest : List (Addr × Obj)} (N : News h₀ L h (a :: b :: c :: y1 :: y2 :: y3 :: y4 :: y5 :: (tl ++ rest))) : News h₀ L h ((a :: b :: c :: tl) ++ rest) := fun p hp => N p (by
  simp only [List.cons_append, List.mem_cons] at hp ⊢
  rcases hp with h | h | h | h <;> simp [h])

theorem upd4 {z : Str} (hz : [Str.ofString "row", Str.ofString "parts", Str.ofString "kind", Str.ofString "place"].contains z = false) {v1 v2 v3 v4 u m : Option Value} :
    (if z = Str.ofString "place" then v1 else if z = Str.ofString "kind" then v2 else if z = Str.ofString "parts" then v3 else if z = Str.ofString "row" then v4 else if [Str.ofString "row", Str.ofString "parts", Str.ofString "kind", Str.ofString "place"].contains z = true then u else m) = m := by
  have h1 : z ≠ Str.ofString "place" := fun e => by subst e; exact absurd hz (by decide)
  have h2 : z ≠ Str.ofString "kind" := fun e => by subst e; exact absurd hz (by decide)
  have h3 : z ≠ Str.ofString "parts" := fun e => by subst e; exact absurd hz (by decide)
  have h4 : z ≠ Str.ofString "row" := fun e => by subst e; exact absurd hz (by decide)
  rw [if_neg h1, if_neg h2, if_neg h3, if_neg h4, hz, if_neg (by decide)]
theorem rn_news {h₀ h : Heap} {L : Addr} {a b l y2 y3 y4 y5 : Addr × Obj} {tl rest : List (Addr × Obj)} (N : News h₀ L h (a :: b :: l :: y2 :: y3 :: y4 :: y5 :: (tl ++ rest))) : News h₀ L h (l :: y2 :: y3 :: y4 :: y5 :: ((a :: tl) ++ rest)) := fun p hp => N p (by
  simp only [List.cons_append, List.mem_cons] at hp ⊢
  rcases hp with h | h | h | h | h | h | h <;> simp [h])
theorem RnI.snoc {ks : List Nat} {i p : Nat} {nm : List (Str × Int × Str)} {n : Str × Int × Str} (hI : RnI ks i p nm) (h1 : p < ks.length) (h2 : p + (seg ks p).length < ks.length) (h3 : (rowAt ks p == Str.ofString "c") = false) (h4 : line (rowAt ks p) = .ok n) : RnI ks i (p + (seg ks p).length + 1) (nm ++ [n]) := fun r hr => by
  have := hI _ (.name h1 h2 h3 h4 hr)
  rwa [Res.pre_pre] at this
theorem dat_snoc {tl : List (Addr × Obj)} {vls : List Value} {nm : List (Str × Int × Str)} {D : Addr} {a b : Str} {n : Int} {t1 t2 t3 : Tok} (hS : DatAll tl vls (nm.map datName)) :
    DatAll ((D, { cls := .type "tuple", data := .seq #[.str a t1, .int n t2, .str b t3] }) :: tl) (vls ++ [.ref D]) ((nm ++ [(a, n, b)]).map datName) := by
  rw [List.map_append]
  exact (hS.mono fun _ h => .tail _ h).append (.cons (.tuple (vs := [.str a t1, .int n t2, .str b t3]) (.head _) (.cons (.str _ _) (.cons (.int _ _) (.cons (.str _ _) .nil)))) .nil)
theorem ne_cons {D l : Addr} {o : Obj} {tl rest : List (Addr × Obj)} (h : l < D) (hA : ∀ q ∈ tl ++ rest, q.1 ≠ l) : ∀ q ∈ ((D, o) :: tl) ++ rest, q.1 ≠ l := fun q hq => by
  rcases List.mem_cons.mp hq with rfl | hq
  · exact fun e => Nat.lt_irrefl _ (show l < l from e ▸ h)
  · exact hA q hq


theorem rn_ok {w : World} {dp un : Nat} {gd : Option (List Code)} {cn : Str} {cs : Scope} {a : Addr} {ccd : Value} {cl : List (Str × Addr)} {outer : List Env} {A₀ : Around} {base h₀ : Heap} {L : Addr} {m : Str → Option Value} {s : Shared} {Q E : Value → Shared → Prop} {mean : ExcName → Option Value} {mg mb : Str → Option Value}
    {x dx lc dz : Addr} {i : Nat} {b : Int} {k1 k2 k3 t1 t2 : Tok} {nl : Nat} {vs : List Value} {ks : List Nat} {ns : List Int} {oz : Obj} {kvs : List (Str × Value)} {rest : List (Addr × Obj)}
    (B : Below A₀ base outer h₀) (F : Fr h₀ L s.heap m) (X : (hd.heap_39 w.params).In h₀) (N : News h₀ L s.heap ((dx, rdD w lc i b k1 k2 k3 t1 t2) :: (x, instObj 99 dx) :: (lc, listOf vs.toArray nl) :: (dz, oz) :: rest))
    (T : Top hd.view_39 (looseW hd.view_39 LS) mean mg mb h₀) (hk : cs.kind = .function)
    (hi : IntsAre vs ns) (hks : ns = ks.map Int.ofNat) (hlen : ns.length = ks.length) (hu0 : ∀ c ∈ ks, c < 1114112) (hn1 : ks.length ≤ 1000) (hi0 : i ≤ ks.length)
    (hz1 : (dz == sysModules) = false) (hz2 : oz.IsDictOf (strKind Challenge.rw_on0091_01.row.prog w) kvs) (hz3 : PyProof.V.FlatPairs PyData.str kvs szD)
    (hxd : @Ne Nat x dx) (hld : @Ne Nat lc dx) (hzd : @Ne Nat dz dx) (hrest : ∀ p ∈ rest, p.1 ≠ dx)
    (hdp : dp + 60 < recursionLimit) (hu : un + 600 < cLine)
    (ret : ∀ (nm : List (Str × Int × Str)) (rows : List Str) (v : Value) (tl : List (Addr × Obj)) (h' : Heap) (tk' : Nat), Names ks i (.ok nm rows) →
      DatIn tl v (.tuple [.tuple (nm.map datName), .tuple (rows.map .str)]) → Fr h₀ L h' m → News h₀ L h' (tl ++ rest) → Q v { s with heap := h', toks := tk' })
    (exc : ∀ x h' tk' g k at_ d, Names ks i (.err k at_ d) → Fr h₀ L g m → RaisedF base g (envX cn cs L a ccd cl :: outer) x k at_ d rest h' → g.UpToSlots h' → E (.ref x) { s with heap := h', toks := tk' }) :
    wpAny (model Challenge.rw_on0091_01.row.prog w) (ktrTop dp un gd cn cs L a ccd cl outer) (call (.ref 117) [.ref x, .ref dz]) Q E s := by
  k_with_none
  (k_with "w k_ne" => (refine neN ?_; (try dsimp only); with_reducible first | assumption | exact Ne.symm (by assumption) | exact Nat.ne_of_gt (by first | assumption | exact cj1 (by assumption) | exact ej2 (by assumption) | exact cj2 (by assumption) | exact ej3 (by assumption) | exact cj3 (by assumption) | exact ej4 (by assumption) | exact cj4 (by assumption) | exact ej5 (by assumption) | exact cj5 (by assumption) | exact ej6 (by assumption) | exact cj6 (by assumption) | exact ej7 (by assumption) | exact cj7 (by assumption) | exact ej8 (by assumption) | exact cj8 (by assumption) | exact ej9 (by assumption) | exact cj9 (by assumption) | exact ej10 (by assumption) | exact cj10 (by assumption) | exact ej11 (by assumption)) | exact Nat.ne_of_lt (by first | assumption | exact cj1 (by assumption) | exact ej2 (by assumption) | exact cj2 (by assumption) | exact ej3 (by assumption) | exact cj3 (by assumption) | exact ej4 (by assumption) | exact cj4 (by assumption) | exact ej5 (by assumption) | exact cj5 (by assumption) | exact ej6 (by assumption) | exact cj6 (by assumption) | exact ej7 (by assumption) | exact cj7 (by assumption) | exact ej8 (by assumption) | exact cj8 (by assumption) | exact ej9 (by assumption) | exact cj9 (by assumption) | exact ej10 (by assumption) | exact cj10 (by assumption) | exact ej11 (by assumption))))
  (k_with "w lt" => ((try dsimp only); with_reducible first | assumption | exact cj1 (by assumption) | exact ej2 (by assumption) | exact cj2 (by assumption) | exact ej3 (by assumption) | exact cj3 (by assumption) | exact ej4 (by assumption) | exact cj4 (by assumption) | exact ej5 (by assumption) | exact cj5 (by assumption) | exact ej6 (by assumption) | exact cj6 (by assumption) | exact ej7 (by assumption) | exact cj7 (by assumption) | exact ej8 (by assumption) | exact cj8 (by assumption) | exact ej9 (by assumption) | exact cj9 (by assumption) | exact ej10 (by assumption) | exact cj10 (by assumption) | exact ej11 (by assumption)))
  (k_with "w room" => first | exact Nat.le_of_ble_eq_true rfl | exact room0 (by assumption) rfl | exact room1 (by assumption) rfl | exact room2 (by assumption) rfl)
  (k_with "w size" => first | exact Nat.le_of_ble_eq_true rfl | exact Nat.le_trans (by with_reducible assumption) (Nat.le_of_ble_eq_true rfl))
  (k_with "w k_all" => with_reducible assumption)
  (k_with "w k_all" => exact allLt_ne (by with_reducible assumption))
  (k_with "w exec Raise some none" => (k_here; refine fe_raise rfl ?_))
  (k_with "w leaving ref" => (k_here; first | (refine fe_leave_first (by assumption) (by assumption) (by assumption) (by exact fe_ne1 (by assumption) (by assumption) (by assumption)) (by exact fe_ne2 (by assumption) (by assumption) (by assumption)) (by assumption) (by assumption) (by assumption) ?_; k_whole; intro hww Rww Uww; (try dsimp only at Rww Uww ⊢)) | (refine fe_leave_on (by assumption) (by assumption) (by assumption) (by assumption) ?_; k_whole; intro hww Rww Uww; (try dsimp only at Rww Uww ⊢))))
  (k_with "w exec While" => (k_here; k_dflt (refine rn_loopN (by with_reducible assumption) (by with_reducible assumption) (by assumption) (by k_all) (by k_all) ?_; k_whole); intro pww vlsww nmww cntww bww t1ww t2ww tlww hww tkww uww hp0ww hSww hv0ww hIww hA1ww hA2ww Fww Nww; (have hv9ww := Nat.le_trans hv0ww (Nat.le_trans hp0ww (by assumption))); (try k_sweep)))
  (k_with "w call ref" => (k_here; k_dflt (first | ((with_reducible show wpAny _ _ (call (Value.ref 52) [_, _, _]) _ _ _); refine fe_call3 (by k_asm) (by k_asm) (by k_asm) (by k_asm) (by k_asm) (by first | exact rfl | assumption) (by ktr_room) (by ktr_units) ?_; intro xww dxww tww esww cww vsww t1ww t2ww t3ww hww tkww Fww Nww l1ww l2ww l3ww e1ww e2ww e3ww; refine ⟨xww, some dxww, tww, rfl, (Nww _ (.tail _ (.head _))).1, by k_in, ?_⟩; (try k_sweep)) | ((with_reducible show wpAny _ _ (call (Value.ref 52) [_, _]) _ _ _); refine fe_call2 (by k_asm) (by k_asm) (by k_asm) (by k_asm) (by k_asm) (by first | exact rfl | assumption) (by ktr_room) (by ktr_units) ?_; intro xww dxww tww esww cww vsww t1ww t2ww t3ww hww tkww Fww Nww l1ww l2ww l3ww e1ww e2ww e3ww; refine ⟨xww, some dxww, tww, rfl, (Nww _ (.tail _ (.head _))).1, by k_in, ?_⟩; (try k_sweep)) | ((with_reducible show wpAny _ _ (call (Value.ref 110) _) _ _ _); refine wn_ok (by k_asm) (by k_asm) (by k_asm) (by k_asm) (by k_asm) (by first | exact rfl | assumption) (by omega) (by ktr_room) (by ktr_units) ?_ ?_; (first | (intro trww hww tkww hgww Fww Nww; (replace hgww : wnBad _ = false := hgww); (try k_sweep)) | (intro xeww hww tkww gww hbww FGww Rww Uww; (try k_sweep)))) | ((with_reducible show wpAny _ _ (call (Value.ref 124) _) _ _ _); refine rc_ok (by k_asm) (by k_asm) (by k_asm) (by exact rc_led (by with_reducible assumption)) (by k_asm) (by first | exact rfl | assumption) (by assumption) (by assumption) (by assumption) (by assumption) (by assumption) (by omega) (by assumption) (by assumption) (by exact rc_off (by with_reducible assumption) (by intro qww; injection qww with qww; exact absurd qww (by decide)) (by with_reducible assumption)) (by ktr_room) (by ktr_units) ?_ ?_; (first | (intro rowsww vlsww tww cww hww tkww hCww hSww hlww Fww Nww; (replace hSww : StrsAre _ _ := hSww); (try k_sweep)) | (intro xeww hww tkww gww hCww FGww Rww Uww; (try k_sweep)))) | ((with_reducible show wpAny _ _ (call (Value.ref 82) _) _ _ _); refine row_ok (by k_asm) (by k_asm) (by k_asm) (by exact news_rot (by with_reducible assumption)) (by k_asm) (by first | exact rfl | assumption) (by assumption) (by assumption) (by assumption) (by assumption) (by assumption) (by omega) (by assumption) (by assumption) (by k_all) (by ktr_room) (by ktr_units) ?_ ?_; (first | (intro trww t1ww t2ww hww tkww hltww Fww Nww; (replace Nww := news_rot' Nww); (have hslww := seg_short (by assumption) hltww); (try k_sweep)) | (intro xeww hww tkww gww heqww FGww Rww Uww; (try k_sweep)))))))
  (k_with "w call builtin:str.split" => (k_here; k_dflt ((refine split_one (by k_asm) (by k_asm) (by omega) ?_ ?_) <;> (first | (intro aww taww bww tbww Dww hww tkww hcww hl1ww hl2ww Fww Nww l1ww; (replace hl2ww : (_ : Nat) ≤ _ := hl2ww); (try k_lt l1ww); (try k_sweep)) | (intro aww taww Dww hww tkww hcww hl1ww Fww Nww l1ww; (replace hl1ww : (_ : Nat) ≤ _ := hl1ww); (try k_lt l1ww); (try k_sweep))))))
  (k_with "w subscriptTail" => (k_here; (with_reducible show wpAny _ _ (subscriptTail _ _ (Value.ref _) (Value.str _ _)) _ _ _); (have hzww := sz_some (by assumption)); k_dflt (refine item_strTab (by k_tabat) hzww ?_; k_whole); intro _ hvww; dict_open hvww))
  revert X
  k_fill
  intro X
  refine wpAny_call ?_
  k_dflt cell_enter
  k_steps
  · rename RnI _ _ _ _ => hI
    rename DatAll _ _ _ => hS
    rename News h₀ _ _ _ => nE
    exact ret _ [] _ _ _ _ (Res.pre_ok _ _ ▸ hI _ (.stop (by omega))) (rn_close (rv := []) (c := 0) hS .nil) (by with_reducible assumption) (rn_sub nE)
  · rename RnI _ _ _ _ => hI
    rename DatAll _ _ _ => hS
    unfold RnStep
    dsimp only
    k_steps
    rename StrsAre _ _ => hR
    rename Cmt _ _ _ => hC
    rename News h₀ _ _ _ => nE
    exact ret _ _ _ (_ :: _ :: _ :: _) _ _ (Res.pre_ok _ _ ▸ hI _ (.cOk (by omega) (by assumption) (by assumption) hC)) (rn_close hS hR) (by with_reducible assumption) nE
  · ((rename RnI _ _ _ _ => hI; exact exc _ _ _ _ _ _ _ (hI (.err _ _ _) (.cCut (by omega) (by assumption) (by assumption) (by assumption))) (by with_reducible assumption) (RaisedF.sub (by with_reducible assumption) fun p hp => by repeat' (first | exact hp | exact List.mem_append_right _ hp | apply List.Mem.tail)) (by with_reducible assumption)))
  · ((rename RnI _ _ _ _ => hI; exact exc _ _ _ _ _ _ _ (hI (.err _ _ _) (.bad (by omega) (by assumption) (by assumption) (by first | exact line_row2 (by assumption) | exact line_row1 (by assumption)))) (by with_reducible assumption) (RaisedF.sub (by with_reducible assumption) fun p hp => by repeat' (first | exact hp | exact List.mem_append_right _ hp | apply List.Mem.tail)) (by with_reducible assumption)))
  · ((rename RnI _ _ _ _ => hI; exact exc _ _ _ _ _ _ _ (hI (.err _ _ _) (.bad (by omega) (by assumption) (by assumption) (by first | exact line_row2 (by assumption) | exact line_row1 (by assumption)))) (by with_reducible assumption) (RaisedF.sub (by with_reducible assumption) fun p hp => by repeat' (first | exact hp | exact List.mem_append_right _ hp | apply List.Mem.tail)) (by with_reducible assumption)))
  · ((rename RnI _ _ _ _ => hI; exact exc _ _ _ _ _ _ _ (hI (.err _ _ _) (.bad (by omega) (by assumption) (by assumption) (by exact line_name (by assumption) (by assumption) (by assumption) (by assumption)))) (by with_reducible assumption) (RaisedF.sub (by with_reducible assumption) fun p hp => by repeat' (first | exact hp | exact List.mem_append_right _ hp | apply List.Mem.tail)) (by with_reducible assumption)))
  · rename RnI _ _ _ _ => hI
    rename DatAll _ _ _ => hS
    rename (cut1 _ = [_, _]) => hc
    rename (wnBad _ = false) => hg
    rename (¬ szOf _ ≤ wnVal _) => hz
    rename (_ + (seg ks _).length < ks.length) => hlt
    rename News _ _ _ _ => nE
    simp only [List.push_toArray] at nE
    refine ⟨_, _, _, _, _, _, _, _, _, _, _, ?_, ?_, dat_snoc hS, ?_, hI.snoc (by omega) hlt (by assumption) (line_ok hc (by assumption) hg hz), ne_cons ?_ (by with_reducible assumption), ne_cons ?_ (by with_reducible assumption), rfl, by with_reducible assumption, fun z hz => upd4 hz, rn_news nE⟩
    · omega
    · omega
    · rw [List.length_append, List.length_singleton]
      omega
    · rename (_ ∧ _ ∧ _ ∧ _ ∧ _ ∧ _ ∧ AllLt _ _) => l1
      exact l1.2.1
    · rename (_ ∧ _ ∧ _ ∧ _ ∧ _ ∧ _ ∧ AllLt _ _) => l1
      exact l1.2.2.1
  · ((rename RnI _ _ _ _ => hI; exact exc _ _ _ _ _ _ _ (hI (.err _ _ _) (.bad (by omega) (by assumption) (by assumption) (line_num (by assumption) (by assumption) (by assumption)))) (by with_reducible assumption) (RaisedF.sub (by with_reducible assumption) fun p hp => by repeat' (first | exact hp | exact List.mem_append_right _ hp | apply List.Mem.tail)) (by with_reducible assumption)))
  · ((rename RnI _ _ _ _ => hI; exact exc _ _ _ _ _ _ _ (hI (.err _ _ _) (.bad (by omega) (by assumption) (by assumption) (by first | exact line_row2 (by assumption) | exact line_row1 (by assumption)))) (by with_reducible assumption) (RaisedF.sub (by with_reducible assumption) fun p hp => by repeat' (first | exact hp | exact List.mem_append_right _ hp | apply List.Mem.tail)) (by with_reducible assumption)))
  · ((rename RnI _ _ _ _ => hI; exact exc _ _ _ _ _ _ _ (hI (.err _ _ _) (.cut (by omega) (by assumption))) (by with_reducible assumption) (RaisedF.sub (by with_reducible assumption) fun p hp => by repeat' (first | exact hp | exact List.mem_append_right _ hp | apply List.Mem.tail)) (by with_reducible assumption)))
end Mine
end

section
open PySem PySem.W PySem.Spec PySem.Calls PyProof.Rows
namespace Mine
theorem w_off_C9a : True := by
  w_top off
  exact trivial
set_option maxRecDepth 100000
set_option maxHeartbeats 4000000
theorem keeps_news {h₀ h h' : Heap} {L : Addr} {news : List (Addr × Obj)} (N : News h₀ L h news) (k : ∀ b o, h.get? b = some o → h'.get? b = some o) : News h₀ L h' news := fun p hp => ⟨k _ _ (N p hp).1, (N p hp).2⟩

theorem comp_signs {prog : Program} {w : World} {A : Around} {E : Value → Shared → Prop} {s : Shared} {h₀ : Heap} {L : Addr} {m : Str → Option Value} {env : Env} {news : List (Addr × Obj)} {elt iter : Expr} {x : Str} {px : Pos} {scope : Scope} {cl : List (Str × Addr)} {pos : Pos} {Q : Value → Shared → Prop} {y : Str} {t : Tok}
    (F : Fr h₀ L s.heap m) (N : News h₀ L s.heap news) {ns : List Int} (hns : y.cps.toList.map Int.ofNat = ns) (hit : ∀ Q' : Value → Shared → Prop, Q' (.str y t) s → wpAny (model prog w) A (eval iter env) Q' E s) (hsz : y.length ≤ 1000)
    (helt : ∀ C c u s₂ m₂ E', s₂.heap.Ns C m₂ → m₂ x = some (.str ⟨#[c]⟩ u) → Fr h₀ L s₂.heap m →
        wpAny (model prog w) A (eval elt (compEnvC scope cl C env)) (fun r s₃ => (∃ tr, r = .int (c : Nat) tr) ∧ ∃ tk, s₃ = { s₂ with toks := tk }) E' s₂)
    (ret : ∀ D (vs : List Value) (n : Nat) h' tk, IntsAre vs ns → Fr h₀ L h' m → News h₀ L h' ((D, listOf vs.toArray n) :: news) → (∀ p ∈ news, p.1 ≠ D) → Q (.ref D) { s with heap := h', toks := tk })
    (hh : A.handled = none) (hclos : closureFor scope env = pure cl) (hcell : ∀ y ∈ scope.names, y.2 ≠ .cell) (hkind : scope.kind = .function)
    (hnames : ∀ y ∈ scope.names, y.2 = .local → scope.names.lookup y.1 = some .local) (hx : scope.names.lookup x = some .local)
    (hs : ∀ x, foldedSetIterable iter env x = pure x) :
    wpAny (model prog w) A (eval (.ListComp elt [⟨.Name x px, iter, [], 0⟩] scope pos) env) Q E s := by
  refine wpAny_ListComp_free (ItemKind.str.lift fun _ => true) (fun v r => ∃ a, ItemKind.str.is a v ∧ Carried r (PyData.int (a.cps.getD 0 0 : Nat))) hclos hcell hkind hnames hx (hit _ ?_) hs
  refine wpAny_pyIter_str fun o St W hst => ?_
  have up : ∀ (h' : Heap), (∀ b o', b ∉ [s.heap.objs.size] → (s.heap.push o).get? b = some o' → h'.get? b = some o') → ∀ b o', s.heap.get? b = some o' → h'.get? b = some o' :=
    fun h' hk b o' e => hk b o' (old_not_new e) (Heap.get?_push_of_some _ e)
  refine ⟨s.heap.objs.size, [s.heap.objs.size], [s.heap.objs.size], y.cps.size, SignAt y, St, rfl, W A hh, Nat.le_trans (show y.cps.size ≤ 1000 from hsz) (by rw [sizeLine_eq]; decide), hst, ?_, ⟨?_, ?_⟩, ?_⟩
  · intro b hb
    show b < (s.heap.push o).objs.size
    rw [Heap.size_push, List.mem_singleton.mp hb]
    exact Nat.lt_succ_self _
  · intro C i v s₃ m₃ E' hC hP hn hm hk _
    obtain ⟨c, u, _, rfl⟩ := hP
    have ha : ItemKind.str.is ⟨#[c]⟩ (.str ⟨#[c]⟩ u) := ⟨u, rfl⟩
    rw [ItemKind.lift_is ha]
    exact wpAny_pure ⟨rfl, _, _, rfl, fun _ _ e => e⟩
  · intro C i v s₃ m₃ E' hC hP hp hn hm hk _
    obtain ⟨c, u, _, rfl⟩ := hP
    have ha : ItemKind.str.is ⟨#[c]⟩ (.str ⟨#[c]⟩ u) := ⟨u, rfl⟩
    refine wpAny_mono (helt C c u s₃ m₃ E' hn hm (F.keeps (up s₃.heap hk))) (fun r s₄ h₄ => ?_) fun _ _ e => e
    obtain ⟨⟨tr, rfl⟩, tk, rfl⟩ := h₄
    exact ⟨⟨_, ha, .int _ _⟩, _, _, rfl, fun _ _ e => e⟩
  · intro D h' tk ys vs hnew hlD hplD hlen hP hF hk
    have F' := F.keeps (up h' hk)
    have N' := N.grown (up h' hk)
    have hD : h₀.get? D = none := by
      cases e : h₀.get? D with
      | none => rfl
      | some o' => rw [Heap.get?_push_of_some _ (F.keep _ _ e)] at hnew; cases hnew
    have off : ∀ p ∈ news, p.1 ≠ D := fun p hp e => by rw [← e, Heap.get?_push_of_some _ (N p hp).1] at hnew; cases hnew
    have P : NewPlain h' news D ys.toList.toArray := ⟨by rw [Array.toArray_toList]; exact hplD, off⟩
    obtain ⟨n, N2⟩ := made_enters P F' N' hD
    have hc := (areOf_signs hlen hP).paired (fun _ => true) (fun a => PyData.int (a.cps.getD 0 0 : Nat)) _ hF
    rw [List.filter_eq_self.mpr fun _ _ => rfl] at hc
    have hi := CarriedAll.intsOf hc
    refine ret D ys.toList n h' tk ?_ F' N2 off
    have e : (signs y).map (fun a => ((a.cps.getD 0 0 : Nat) : Int)) = y.cps.toList.map Int.ofNat := by
      unfold signs
      rw [List.map_map]
      rfl
    rw [← hns, ← e]
    exact hi

theorem fe_getN {prog : Program} {w : World} {A : Around} {E : Value → Shared → Prop} {s : Shared} {g : Heap} {L x dx : Addr} {ox : Obj} {name : Str} {v : Value} {news : List (Addr × Obj)} {Q : Value → Shared → Prop} {expr : Bool} {es : List DictEntry} {n : Nat}
    (X : (hd.heap_39 w.params).In s.heap) (N : News g L s.heap news) (h1 : (x, ox) ∈ news) (h2 : (dx, dictOf es n) ∈ news) (hc : ox.cls = .ref 52) (hn : notCls ox = true) (hdd : ox.dict = some dx)
    (hf : findIn (hd.heap_39 w.params) (.ref 52) name = some none) (hl : getL name es = some (some v)) (hv : handedIn v = true) (h : Q v { s with toks := s.toks + 1 }) :
    wpAny (model prog w) A (getAttr (.ref x) name expr) Q E s :=
  fe_get X ⟨(N _ h1).1, hc, hn, by rw [hdd]; exact (N _ h2).1⟩ hf hl hv h
theorem news_swap {h₀ h : Heap} {L : Addr} {a b : Addr × Obj} {rest : List (Addr × Obj)} (N : News h₀ L h (a :: b :: rest)) : News h₀ L h (b :: a :: rest) := fun p hp => N p (by
  simp only [List.mem_cons] at hp ⊢
  rcases hp with h | h | h <;> simp [h])
theorem news_back {h₀ h : Heap} {L : Addr} {z a b c : Addr × Obj} {rest : List (Addr × Obj)} (N : News h₀ L h (z :: a :: b :: c :: rest)) : News h₀ L h (a :: b :: c :: z :: rest) := fun p hp => N p (by
  simp only [List.mem_cons] at hp ⊢
  rcases hp with h | h | h | h | h <;> simp [h])
theorem news_back' {h₀ h : Heap} {L : Addr} {z a b c : Addr × Obj} {rest : List (Addr × Obj)} (N : News h₀ L h (z :: b :: a :: c :: rest)) : News h₀ L h (a :: b :: c :: z :: rest) := fun p hp => N p (by
  simp only [List.mem_cons] at hp ⊢
  rcases hp with h | h | h | h | h <;> simp [h])
theorem rd_start {w : World} {h₀ h : Heap} {L x d D : Addr} {k1 k2 k3 t1 t2 : Tok} {news : List (Addr × Obj)} (N : News h₀ L h ((x, instObj 99 d) :: (d, rdD w D 0 0 k1 k2 k3 t1 t2) :: news)) :
    News h₀ L h ((x, instObj 99 d) :: (d, rdD w D (0 : Nat) (0 : Nat) k1 k2 k3 t1 t2) :: news) := N
theorem rd_start2 {w : World} {h₀ h : Heap} {L x d D : Addr} {z : Addr × Obj} {k1 k2 k3 t1 t2 : Tok} {news : List (Addr × Obj)} (N : News h₀ L h (z :: (x, instObj 99 d) :: (d, rdD w D 0 0 k1 k2 k3 t1 t2) :: news)) :
    News h₀ L h (z :: (x, instObj 99 d) :: (d, rdD w D (0 : Nat) (0 : Nat) k1 k2 k3 t1 t2) :: news) := N
end Mine
end

section
open PySem PySem.W PySem.Spec PySem.Calls PyProof.Rows
namespace Mine
theorem w_off_C9 : True := by
  w_top off
  exact trivial
set_option maxRecDepth 100000
set_option maxHeartbeats 4000000

noncomputable def resDat : Res → Dat
  | .ok nm rows => .tuple [.tuple (nm.map datName), .tuple (rows.map .str)]
  | .err k a d => .tuple [.str k, .int a, .str d]



theorem err_dat {D : Addr} {k d : Str} {a : Int} {t1 t2 t3 : Tok} : DatIn [(D, { cls := .type "tuple", data := .seq #[.str k t1, .int a t2, .str d t3] })] (.ref D) (resDat (.err k a d)) :=
  .tuple (vs := [.str k t1, .int a t2, .str d t3]) (.head _) (.cons (.str _ _) (.cons (.int _ _) (.cons (.str _ _) .nil)))
theorem err_news {h₀ h : Heap} {L : Addr} {a b c : Addr × Obj} {rest : List (Addr × Obj)} (N : News h₀ L h (a :: b :: c :: rest)) : News h₀ L h ([a] ++ rest) := fun p hp => N p (by
  simp only [List.cons_append, List.nil_append, List.mem_cons] at hp ⊢
  rcases hp with h | h <;> simp [h])

noncomputable def SkipMid (w : World) (g : Heap) (L' : Addr) (m₁ : Str → Option Value) (s : Shared) (ks : List Nat) (skip : Bool) (x dx lc : Addr) (ol : Obj) (rest : List (Addr × Obj)) (s₁ : Shared) : Prop :=
  ∃ (h : Heap) (tk i : Nat) (b : Int) (k1 k2 k3 t1 t2 : Tok), s₁ = { s with heap := h, toks := tk } ∧ i = (if skip then 0 + (seg ks 0).length + 1 else 0) ∧ i ≤ ks.length ∧ Fr g L' h m₁ ∧
    News g L' h ((dx, rdD w lc i b k1 k2 k3 t1 t2) :: (x, instObj 99 dx) :: (lc, ol) :: rest)
theorem skip_mid {w : World} {g h : Heap} {L' : Addr} {m₁ : Str → Option Value} {s : Shared} {ks : List Nat} {skip : Bool} {x dx lc : Addr} {ol : Obj} {rest : List (Addr × Obj)} {tk i : Nat} {b : Int} {k1 k2 k3 t1 t2 : Tok}
    (F : Fr g L' h m₁) (N : News g L' h ((dx, rdD w lc i b k1 k2 k3 t1 t2) :: (x, instObj 99 dx) :: (lc, ol) :: rest)) (hi : i = (if skip then 0 + (seg ks 0).length + 1 else 0)) (h1 : i ≤ ks.length) :
    SkipMid w g L' m₁ s ks skip x dx lc ol rest { s with heap := h, toks := tk } := ⟨h, tk, i, b, k1, k2, k3, t1, t2, rfl, hi, h1, F, N⟩
theorem skip_cut {prog : Program} {w : World} {A : Around} {E : Value → Shared → Prop} {s : Shared} {env : Env} {st : Stmt} {sts : List Stmt} {Q : Flow → Shared → Prop} {g : Heap} {L' x dx lc : Addr} {m₁ : Str → Option Value} {ol : Obj} {rest : List (Addr × Obj)} {i₀ b₀ : Int} {k1 k2 k3 t1 t2 : Tok} (ks : List Nat) (skip : Bool)
    (_ : Fr g L' s.heap m₁) (_ : News g L' s.heap ((dx, rdD w lc i₀ b₀ k1 k2 k3 t1 t2) :: (x, instObj 99 dx) :: (lc, ol) :: rest))
    (h1 : wpAny (model prog w) A (exec st env) (fun f s₁ => match f with | .next => SkipMid w g L' m₁ s ks skip x dx lc ol rest s₁ | f => Q f s₁) E s)
    (h2 : ∀ (h : Heap) (tk i : Nat) (b : Int) (k1 k2 k3 t1 t2 : Tok), i = (if skip then 0 + (seg ks 0).length + 1 else 0) → i ≤ ks.length → Fr g L' h m₁ → News g L' h ((dx, rdD w lc i b k1 k2 k3 t1 t2) :: (x, instObj 99 dx) :: (lc, ol) :: rest) →
      wpAny (model prog w) A (execs sts env) Q E { s with heap := h, toks := tk }) :
    wpAny (model prog w) A (execs (st :: sts) env) Q E s :=
  exec_cut1 _ h1 (by
    rintro s₂ ⟨h, tk, i, b, k1, k2, k3, t1, t2, rfl, hi, h1, F, N⟩
    exact h2 h tk i b k1 k2 k3 t1 t2 hi h1 F N)


theorem lr_ok {w : World} {dp un : Nat} {gd : Option (List Code)} {cn : Str} {cs : Scope} {a : Addr} {ccd : Value} {cl : List (Str × Addr)} {A₀ : Around} {base h₀ : Heap} {L : Addr} {m : Str → Option Value} {s : Shared} {Q E : Value → Shared → Prop} {mean : ExcName → Option Value} {mg mb : Str → Option Value}
    {letters : Str} {tk0 : Tok} {skip : Bool} {ks : List Nat} {rest : List (Addr × Obj)}
    (B : Below A₀ base [] h₀) (F : Fr h₀ L s.heap m) (X : (hd.heap_39 w.params).In h₀) (N : News h₀ L s.heap rest)
    (T : Top hd.view_39 (looseW hd.view_39 LS) mean mg mb h₀) (hk : cs.kind = .function)
    (hks : letters.cps.toList = ks) (hu0 : ∀ c ∈ ks, c < 1114112) (hn1 : ks.length ≤ 1000) (hn2 : letters.length ≤ 1000) (hsk : skip = true → 0 + (seg ks 0).length < ks.length)
    (XB : (hd.heap_39 w.params).In base) (TB : Top hd.view_39 (looseW hd.view_39 LS) mean mg mb base)
    (hdp : dp + 80 < recursionLimit) (hu : un + 800 < cLine)
    (ret : ∀ (res : Res) (v : Value) (tl : List (Addr × Obj)) (h' : Heap) (tk' : Nat), Names ks (if skip then 0 + (seg ks 0).length + 1 else 0) res →
      DatIn tl v (resDat res) → Fr h₀ L h' m → News h₀ L h' (tl ++ rest) → Q v { s with heap := h', toks := tk' }) :
    wpAny (model Challenge.rw_on0091_01.row.prog w) (ktrTop dp un gd cn cs L a ccd cl []) (call (.ref 143) [.str letters tk0, .bool skip]) Q E s := by
  k_with_none
  (k_with "w k_ne" => (refine neN ?_; (try dsimp only); with_reducible first | assumption | exact Ne.symm (by assumption) | exact Nat.ne_of_gt (by first | assumption | exact cj1 (by assumption) | exact ej2 (by assumption) | exact cj2 (by assumption) | exact ej3 (by assumption) | exact cj3 (by assumption) | exact ej4 (by assumption) | exact cj4 (by assumption) | exact ej5 (by assumption) | exact cj5 (by assumption) | exact ej6 (by assumption) | exact cj6 (by assumption) | exact ej7 (by assumption) | exact cj7 (by assumption) | exact ej8 (by assumption) | exact cj8 (by assumption) | exact ej9 (by assumption) | exact cj9 (by assumption) | exact ej10 (by assumption) | exact cj10 (by assumption) | exact ej11 (by assumption)) | exact Nat.ne_of_lt (by first | assumption | exact cj1 (by assumption) | exact ej2 (by assumption) | exact cj2 (by assumption) | exact ej3 (by assumption) | exact cj3 (by assumption) | exact ej4 (by assumption) | exact cj4 (by assumption) | exact ej5 (by assumption) | exact cj5 (by assumption) | exact ej6 (by assumption) | exact cj6 (by assumption) | exact ej7 (by assumption) | exact cj7 (by assumption) | exact ej8 (by assumption) | exact cj8 (by assumption) | exact ej9 (by assumption) | exact cj9 (by assumption) | exact ej10 (by assumption) | exact cj10 (by assumption) | exact ej11 (by assumption))))
  (k_with "w lt" => ((try dsimp only); with_reducible first | assumption | exact cj1 (by assumption) | exact ej2 (by assumption) | exact cj2 (by assumption) | exact ej3 (by assumption) | exact cj3 (by assumption) | exact ej4 (by assumption) | exact cj4 (by assumption) | exact ej5 (by assumption) | exact cj5 (by assumption) | exact ej6 (by assumption) | exact cj6 (by assumption) | exact ej7 (by assumption) | exact cj7 (by assumption) | exact ej8 (by assumption) | exact cj8 (by assumption) | exact ej9 (by assumption) | exact cj9 (by assumption) | exact ej10 (by assumption) | exact cj10 (by assumption) | exact ej11 (by assumption)))
  (k_with "w room" => first | exact Nat.le_of_ble_eq_true rfl | exact room0 (by assumption) rfl | exact room1 (by assumption) rfl | exact room2 (by assumption) rfl)
  (k_with "w size" => first | exact Nat.le_of_ble_eq_true rfl | exact Nat.le_trans (by with_reducible assumption) (Nat.le_of_ble_eq_true rfl))
  (k_with "w k_all" => with_reducible assumption)
  (k_with "w k_all" => exact allLt_ne (by first | with_reducible assumption | tbn_find))
  (k_with "w eval ListComp" => (k_here; k_dflt (refine comp_signs (by k_asm) (by k_asm) (by assumption) (by (intro Qww hqww; walk_at "eval Name"; exact hqww)) (by assumption) ?_ ?_ (by with_unfolding_all rfl) (by with_unfolding_all rfl) (by decide) (by with_unfolding_all rfl) (by decide) (by with_unfolding_all rfl) (by intro _; with_unfolding_all rfl))))
  (k_with "w eval Dict" => (k_here; k_dflt (refine kdn_str (by rfl) (by k_asm) (by k_asm) (by exact Top.nolimit (by k_asm)) (by rfl) (by rfl) (by exact List.cons_ne_nil _ _) (by exact Nat.le_of_ble_eq_true rfl) ?_); intro dww hww oww Fww Nww l1ww loww hdww; (try k_lt l1ww)))
  (k_with "w getAttr ref" => (k_here; k_dflt (refine fe_getN (by k_in) (by k_asm) (by repeat' (first | exact .head _ | apply List.Mem.tail)) (by repeat' (first | exact .head _ | apply List.Mem.tail)) (by assumption) (by assumption) (by assumption) (by first | exact (fe_facts _).nokind | exact (fe_facts _).noat | exact (fe_facts _).nodetail) (by assumption) (by rfl) ?_; k_whole)))
  (k_with "w noteFrame ref" => (k_here; k_dflt (refine fe_caught (by assumption) (by assumption) (by assumption) (by assumption) (by assumption) (by assumption) (by assumption) (by first | assumption | exact KtsTurn.refl) ?_; k_whole); intro hww gww tkww oxww dxww esww cww t1ww t2ww t3ww KTww Fww Nww hc1ww hc2ww hc3ww e1ww e2ww e3ww Bww Xww Tww Dww; (try k_sweep)))
  (k_with "w call ref" => (k_here; k_dflt (first | ((with_reducible show wpAny _ _ (call (Value.ref 117) _) _ _ _); refine rn_ok (by k_asm) (by k_asm) (by k_asm) (by first | exact news_back (by with_reducible assumption) | exact news_back' (rd_start2 (by with_reducible assumption)) | exact news_back' (by with_reducible assumption)) (by k_asm) (by first | exact rfl | assumption) (by assumption) (by assumption) (by assumption) (by assumption) (by assumption) (by omega) (by assumption) (by assumption) (by assumption) (by k_ne) (by k_ne) (by k_ne) (by k_all) (by ktr_room) (by ktr_units) ?_ ?_) | ((with_reducible show wpAny _ _ (call (Value.ref 82) _) _ _ _); refine row_ok (by k_asm) (by k_asm) (by k_asm) (by exact news_swap (rd_start (by with_reducible assumption))) (by k_asm) (by first | exact rfl | assumption) (by assumption) (by assumption) (by assumption) (by assumption) (by assumption) (by omega) (by k_ne) (by k_ne) (by k_all) (by ktr_room) (by ktr_units) ?_ ?_))))
  (k_with "w execs cons" => ((with_reducible show wpAny _ _ (execs [Stmt.If _ _ _ _, Stmt.Return _ _] _) _ _ _); refine Held.get ?_))
  obtain ⟨ns, hns⟩ : ∃ ns, ns = ks.map Int.ofNat := ⟨_, rfl⟩
  have hlen : ns.length = ks.length := by rw [hns, List.length_map]
  have hns' : letters.cps.toList.map Int.ofNat = ns := by rw [hns, hks]
  have hsz : skip = true → 0 < ks.length := fun h => by have := hsk h; omega
  revert X XB
  k_fill
  intro X XB
  refine wpAny_call ?_
  refine' code_tryX B F X N T rfl rfl hk ?ho ?hcd ?hroom ?hbind ?hloc ?_ ?hco ?hgen ?hkk ?hcell
  case ho => exact rfl
  case hcd => exact rfl
  case hroom => ktr_room
  case hbind => first | exact BindsTo.of_eq rfl | exact binds_K (by k_in) rfl (by k_is) rfl rfl rfl
  case hloc => exact locs rfl
  case hco => exact rfl
  case hgen => exact rfl
  case hkk => exact rfl
  case hcell => decide
  intro g' L' h' FG' F' N' B' X' T' D'
  try dsimp only
  try k_fold
  k_steps
  unfold Held
  (rename Fr _ _ _ _ => fE)
  (rename News _ _ _ _ => nE)
  refine skip_cut ks skip fE (news_swap (rd_start nE)) ?_ ?_
  · cases skip with
    | true =>
      have hs0 := hsz rfl
      have hs1 := hsk rfl
      k_steps
      · exact skip_mid (i := 0 + (seg ks 0).length + 1) (by with_reducible assumption) (by with_reducible assumption) rfl (by omega)
      · exact absurd hs1 (by omega)
    | false =>
      k_steps
      exact skip_mid (i := 0) (by with_reducible assumption) (news_swap (rd_start (by with_reducible assumption))) rfl (Nat.zero_le _)
  · clear fE nE
    intro h tk i b k1 k2 k3 t1 t2 hi hile F1 N1
    dsimp only at F1 N1 ⊢
    k_steps
    · rename Names _ _ (.ok _ _) => hN
      rename DatIn _ _ _ => hD
      exact ret _ _ _ _ _ (hi ▸ hN) hD (by with_reducible assumption) (by with_reducible assumption)
    · rename Names _ _ (.err _ _ _) => hN
      rename News h₀ _ _ _ => nE
      exact ret _ _ [_] _ _ (hi ▸ hN) err_dat (by with_reducible assumption) (err_news nE)
end Mine
end

section
open PySem PySem.W PySem.Spec PySem.Calls PyProof.Rows
namespace Mine
theorem w_off_C10a : True := by
  w_top off
  exact trivial
set_option maxRecDepth 100000
set_option maxHeartbeats 4000000

noncomputable def FlagPost (h₀ : Heap) (L : Addr) (own news : List (Addr × Obj)) (m₀ : Str → Option Value) (x gn : Str) (b : Bool) (s : Shared) (f : Flow) (s₃ : Shared) : Prop :=
  match f with
  | .ret _ => False
  | .brk => False
  | _ => ∃ h' tk' m', s₃ = { s with heap := h', toks := tk' } ∧ Fr h₀ L h' m' ∧ (∀ z, z ≠ x → z ≠ gn → m' z = m₀ z) ∧ m' gn = some (.bool b) ∧ News h₀ L h' (own ++ news)

theorem flag_loop {prog : Program} {w : World} {A : Around} {E : Value → Shared → Prop} {Q : Flow → Shared → Prop} {s : Shared} {env : Env} {h₀ : Heap} {m₀ : Str → Option Value} {x gn : Str} {px pos : Pos} {iter : Expr} {body : List Stmt} {y : Str} {t : Tok} {g0 : Bool} {news : List (Addr × Obj)}
    (F : Fr h₀ env.locals s.heap m₀) (N : News h₀ env.locals s.heap news) (hit : ∀ Q' : Value → Shared → Prop, Q' (.str y t) s → wpAny (model prog w) A (eval iter env) Q' E s) (hsz : y.length ≤ 1000)
    (hg : m₀ gn = some (.bool g0)) (hne : gn ≠ x)
    (turn : ∀ c u b h tk own, (⟨#[c]⟩ : Str) ∈ signs y → Fr h₀ env.locals h (fun z => if z = x then some (.str ⟨#[c]⟩ u) else if z = gn then some (.bool b) else m₀ z) → News h₀ env.locals h (own ++ news) →
      wpAny (model prog w) A (execs body env) (FlagPost h₀ env.locals own news m₀ x gn (b && dig ⟨#[c]⟩) s) E { s with heap := h, toks := tk })
    (done : ∀ v h tk, Fr h₀ env.locals h (fun z => if z = x then v else if z = gn then some (.bool (g0 && (signs y).all dig)) else m₀ z) → News h₀ env.locals h news → Q .next { s with heap := h, toks := tk })
    (hh : A.handled = none) (hx : env.kindOf x = some .local) (hp : (env.scope.kind == .class || (env.scope.kind == .module && env.locals != env.globals)) = false)
    (hs : ∀ x, foldedSetIterable iter env x = pure x := by intro _; rfl)
    (hE : PassesOwn (model prog w) A env E := by passes_own) :
    wpAny (model prog w) A (exec (.For (.Name x px) iter body [] pos) env) Q E s := by
  refine For_invVF F hx hp (hit _ ?_) hs hE
  refine wpAny_pyIter_str fun o St W hst => ?_
  have off : ∀ p ∈ news, p.1 ∉ [s.heap.objs.size] := fun p hp hI => absurd (Heap.lt_size (N p hp).1) ((List.mem_singleton.mp hI) ▸ Nat.lt_irrefl _)
  refine ⟨s.heap.objs.size, [s.heap.objs.size], [s.heap.objs.size], y.cps.size, SignAt y, St, m₀, news, fun i m₁ nx => nx = news ∧ m₁ gn = some (.bool (g0 && ((signs y).take i).all dig)) ∧ ∀ z, z ≠ x → z ≠ gn → m₁ z = m₀ z, rfl, W A hh, ?_, ?_, off, hst, F.push _, fun p hp => ⟨Heap.get?_push_of_some _ (N p hp).1, (N p hp).2⟩, ⟨rfl, by rw [hg]; simp, fun _ _ _ => rfl⟩, ?_, ?_⟩
  · intro hm
    exact absurd F.ns.lt ((List.mem_singleton.mp hm) ▸ Nat.lt_irrefl _)
  · intro b hb
    rw [List.mem_singleton.mp hb]
    exact next_is_new F
  · rintro i v m₁ news₁ s₁ own ⟨h, tk, rfl⟩ hi ⟨c, u, hc, rfl⟩ ⟨rfl, hgm, hm⟩ _ _ _ _ _ F₁ N₁
    have hsi : (signs y)[i]? = some ⟨#[c]⟩ := by
      unfold signs
      rw [List.getElem?_map, Array.getElem?_toList, hc]
      rfl
    have em : (fun z => if z = x then some (Value.str ⟨#[c]⟩ u) else m₁ z) = fun z => if z = x then some (.str ⟨#[c]⟩ u) else if z = gn then some (.bool (g0 && ((signs y).take i).all dig)) else m₀ z := by
      funext z
      by_cases h1 : z = x
      · rw [if_pos h1, if_pos h1]
      · rw [if_neg h1, if_neg h1]
        by_cases h2 : z = gn
        · rw [if_pos h2, h2, hgm]
        · rw [if_neg h2, hm z h1 h2]
    rw [em] at F₁
    have en : ((signs y).take (i + 1)).all dig = (((signs y).take i).all dig && dig ⟨#[c]⟩) := by
      rw [List.take_add_one, hsi, List.all_append]
      simp
    refine wpAny_mono (turn c u _ h tk own (List.mem_of_getElem? hsi) F₁ N₁) (fun f s₂ p => ?_) fun _ _ e => e
    cases f with
    | ret v => exact p.elim
    | brk => exact p.elim
    | next =>
      obtain ⟨h', tk', m', rfl, F', hm', hg', N'⟩ := p
      exact .next ⟨rfl, h', tk', m', _, rfl, F', N', off, rfl, by rw [hg', en, Bool.and_assoc], hm'⟩
    | cont =>
      obtain ⟨h', tk', m', rfl, F', hm', hg', N'⟩ := p
      exact .cont ⟨rfl, h', tk', m', _, rfl, F', N', off, rfl, by rw [hg', en, Bool.and_assoc], hm'⟩
  · rintro h' tk m' news' F' N' _ ⟨rfl, hg', hm'⟩
    refine done (m' x) h' tk ?_ N'
    have : (signs y).take y.cps.size = signs y := List.take_of_length_le (Nat.le_of_eq (signs_length y))
    rw [this] at hg'
    have em : (fun z => if z = x then m' x else if z = gn then some (Value.bool (g0 && (signs y).all dig)) else m₀ z) = m' := by
      funext z
      by_cases h1 : z = x
      · rw [if_pos h1, h1]
      · rw [if_neg h1]
        by_cases h2 : z = gn
        · rw [if_pos h2, h2, hg']
        · rw [if_neg h2, hm' z h1 h2]
    rw [em]
    exact F'

theorem rng_inv {prog : Program} {w : World} {A : Around} {E : Value → Shared → Prop} {Q : Flow → Shared → Prop} {s : Shared} {env : Env} {h₀ : Heap} {x : Str} {body : List Stmt} {r : Addr} {b₀ : Int} {t₀ u₀ v₀ : Tok} {n : Nat} {m₀ : Str → Option Value} {news : List (Addr × Obj)} (J : Nat → (Str → Option Value) → List (Addr × Obj) → Prop)
    (hr : IsRange s.heap r 0 b₀ 1 t₀ u₀ v₀) (hsmall : Builtin.Range.small 0 b₀ 1 = true) (hn : Builtin.Range.rangeSize 0 b₀ 1 = (n : Int)) (F : Fr h₀ env.locals s.heap m₀) (N : News h₀ env.locals s.heap news) (hj : J 0 m₀ news)
    (turn : ∀ i t m₁ nx h tk I oI, i < n → J i m₁ nx → (∀ p ∈ nx, p.1 ≠ I) → oI.cls = .type "range_iterator" → Fr h₀ env.locals h (fun y => if y = x then some (.int (i : Nat) t) else m₁ y) → News h₀ env.locals h ((I, oI) :: nx) →
      wpAny (model prog w) A (execs body env) (fun f s₃ => match f with
        | .ret v => Q (.ret v) s₃
        | .brk => Q .next s₃
        | _ => ∃ h' tk' m₂ nx₂, s₃ = { s with heap := h', toks := tk' } ∧ Fr h₀ env.locals h' m₂ ∧ News h₀ env.locals h' ((I, oI) :: nx₂) ∧ (∀ p ∈ nx₂, p.1 ≠ I) ∧ J (i + 1) m₂ nx₂) E { s with heap := h, toks := tk })
    (done : ∀ m₁ nx h tk, J n m₁ nx → Fr h₀ env.locals h m₁ → News h₀ env.locals h nx → Q .next { s with heap := h, toks := tk }) (hh : A.handled = none) :
    wpAny (model prog w) A (pyIter (.ref r)) (fun it s₂ => LoopAtV prog w A h₀ env x body Q E it s₂) E s := by
  refine wpAny_pyIter_range hr hsmall ?_
  have W : Walks prog w A s.heap.objs.size [s.heap.objs.size] [s.heap.objs.size] n (fun i v => i < n ∧ ∃ t, v = .int ((0 : Int) + i * 1) t)
      (fun i h => IsRangeIter h s.heap.objs.size ((0 : Int) + (i : Nat) * 1) ((n : Int) - (i : Nat)) 1) := (Walks.range hh _ 0 1 n).bound
  have off : ∀ p ∈ news, p.1 ∉ [s.heap.objs.size] := fun p hp hI => absurd (Heap.lt_size (N p hp).1) ((List.mem_singleton.mp hI) ▸ Nat.lt_irrefl _)
  refine ⟨_, _, _, n, _, _, m₀, news, J, rfl, W, ?_, ?_, off, ?_, F.push _, fun p hp => ⟨Heap.get?_push_of_some _ (N p hp).1, (N p hp).2⟩, hj, ?_, ?_⟩
  · intro hm
    exact absurd F.ns.lt ((List.mem_singleton.mp hm) ▸ Nat.lt_irrefl _)
  · intro b hb
    rw [List.mem_singleton.mp hb]
    exact next_is_new F
  · show IsRangeIter _ _ _ _ _
    rw [hn]
    simpa using Heap.get?_push_size _ rfl
  · rintro i v m₁ nx s₁ own ⟨h, tk, rfl⟩ hi ⟨_, t, rfl⟩ hJ hoff hown hget hin hst F₁ N₁
    have hI : ∃ oI : Obj, h.get? s.heap.objs.size = some oI ∧ oI.cls = .type "range_iterator" := ⟨_, hst, rfl⟩
    obtain ⟨oI, hoI, hcI⟩ := hI
    have hmem := hin _ (List.mem_singleton.mpr rfl) (next_is_new F) oI hoI
    have hon : ∀ p ∈ own, p = (s.heap.objs.size, oI) := fun p hp => by
      have e1 := List.mem_singleton.mp (hown p hp)
      have e2 := hget p hp
      obtain ⟨a, o⟩ := p
      dsimp only at e1 e2
      subst e1
      rw [show Heap.get? _ _ = some o from e2] at hoI
      cases hoI
      rfl
    rw [show ((0 : Int) + (i : Int) * 1) = (i : Int) from by omega] at F₁
    refine wpAny_mono (turn i t m₁ nx h tk _ oI hi hJ (fun p hp e => hoff p hp (e ▸ List.mem_singleton.mpr rfl)) hcI F₁ fun p hp => ?_) (fun f s₂ p => ?_) fun _ _ e => e
    · rcases List.mem_cons.mp hp with rfl | hp
      · exact N₁ _ (List.mem_append_left _ hmem)
      · exact N₁ _ (List.mem_append_right _ hp)
    · have go : (∃ h' tk' m₂ nx₂, s₂ = { s with heap := h', toks := tk' } ∧ Fr h₀ env.locals h' m₂ ∧ News h₀ env.locals h' ((s.heap.objs.size, oI) :: nx₂) ∧ (∀ p ∈ nx₂, p.1 ≠ s.heap.objs.size) ∧ J (i + 1) m₂ nx₂) → ∃ h' tk' m₂ nx₂, s₂ = { s with heap := h', toks := tk' } ∧ Fr h₀ env.locals h' m₂ ∧ News h₀ env.locals h' (own ++ nx₂) ∧ (∀ p ∈ nx₂, p.1 ∉ [s.heap.objs.size]) ∧ J (i + 1) m₂ nx₂ := by
        rintro ⟨h', tk', m₂, nx₂, rfl, F', N', off', hJ'⟩
        refine ⟨h', tk', m₂, nx₂, rfl, F', fun p hp => ?_, fun p hp hI => off' p hp (List.mem_singleton.mp hI), hJ'⟩
        rcases List.mem_append.mp hp with hp | hp
        · rw [hon p hp]
          exact N' _ (.head _)
        · exact N' _ (.tail _ hp)
      cases f with
      | ret v => exact .ret p
      | brk => exact .brk p
      | next =>
        obtain ⟨h', tk', m₂, nx₂, rfl, F', N', off', hJ'⟩ := go p
        exact .next ⟨rfl, h', tk', m₂, nx₂, rfl, F', N', off', hJ'⟩
      | cont =>
        obtain ⟨h', tk', m₂, nx₂, rfl, F', N', off', hJ'⟩ := go p
        exact .cont ⟨rfl, h', tk', m₂, nx₂, rfl, F', N', off', hJ'⟩
  · intro h' tk m' news' F' N' _ hJ
    exact done m' news' h' tk hJ F' N'

theorem flag_set {h₀ h' : Heap} {L : Addr} {own news : List (Addr × Obj)} {m₀ : Str → Option Value} {x gn : Str} {b : Bool} {c : Str} {s : Shared} {tk' : Nat} {vx vg : Option Value}
    (hd : (Builtin.Str.occurrences (Str.ofString "0123456789") c 0 (Str.ofString "0123456789").length 1).isEmpty = true)
    (F : Fr h₀ L h' (fun z => if z = gn then some (.bool false) else if z = x then vx else if z = gn then vg else m₀ z)) (N : News h₀ L h' (own ++ news)) : FlagPost h₀ L own news m₀ x gn (b && dig c) s .next { s with heap := h', toks := tk' } := by
  refine ⟨h', tk', _, rfl, F, fun z h1 h2 => ?_, ?_, N⟩
  · rw [if_neg h2, if_neg h1, if_neg h2]
  · have : dig c = false := by
      unfold dig
      rw [hd]
      rfl
    rw [if_pos rfl, this, Bool.and_false]
theorem flag_keep {h₀ h' : Heap} {L : Addr} {own news : List (Addr × Obj)} {m₀ : Str → Option Value} {x gn : Str} {b : Bool} {c : Str} {s : Shared} {tk' : Nat} {vx : Option Value} (hne : gn ≠ x)
    (hd : (Builtin.Str.occurrences (Str.ofString "0123456789") c 0 (Str.ofString "0123456789").length 1).isEmpty = false)
    (F : Fr h₀ L h' (fun z => if z = x then vx else if z = gn then some (.bool b) else m₀ z)) (N : News h₀ L h' (own ++ news)) : FlagPost h₀ L own news m₀ x gn (b && dig c) s .next { s with heap := h', toks := tk' } := by
  refine ⟨h', tk', _, rfl, F, fun z h1 h2 => ?_, ?_, N⟩
  · rw [if_neg h1, if_neg h2]
  · have : dig c = true := by
      unfold dig
      rw [hd]
      rfl
    rw [if_neg hne, if_pos rfl, this, Bool.and_true]
end Mine
end

section
open PySem PySem.W PySem.Spec PySem.Calls PyProof.Rows
namespace Mine
theorem w_off_C10 : True := by
  w_top off
  exact trivial
set_option maxRecDepth 100000
set_option maxHeartbeats 1500000



/-! ## what is due for one line, plainly -/
noncomputable abbrev isKind (k : Str) : Bool := [Str.ofString "i", Str.ofString "l", Str.ofString "o"].any fun x => x == k
noncomputable abbrev figs (r : Str) : Str := Txt.slice r (some 1) (some (Txt.find r (Str.ofString " ")))
noncomputable def hasSpc (r : Str) : Bool := !(Builtin.Str.occurrences r (Str.ofString " ") 0 r.length 1).isEmpty
noncomputable def figGood (f : Str) : Bool := ((f != Str.ofString "") && decide ((f.length : Int) < 19) && ((Txt.item f 0 != Str.ofString "0") || (f == Str.ofString "0"))) && (signs f).all dig
noncomputable def dueLine (r : Str) : Except (Str × Str) (Str × Int × Str) :=
  if isKind (kindOf r) && hasSpc r then
    (if figGood (figs r) then (if szOf r ≤ wnVal (figs r) then .error (Str.ofString "bad_name", Str.ofString "") else .ok (kindOf r, wnVal (figs r), Txt.slice r (some (Txt.find r (Str.ofString " ") + 1)) none))
      else .error (Str.ofString "bad_number", figs r))
  else .error (Str.ofString "bad_row", Str.ofString "")
theorem due_row1 {r : Str} (h : (Builtin.Str.occurrences r (Str.ofString " ") 0 r.length 1).isEmpty = true) : dueLine r = .error (Str.ofString "bad_row", Str.ofString "") := by
  unfold dueLine hasSpc
  rw [h, Bool.not_true, Bool.and_false, if_neg (by decide)]
theorem due_row2 {r : Str} (h : isKind (kindOf r) = false) : dueLine r = .error (Str.ofString "bad_row", Str.ofString "") := by
  unfold dueLine
  rw [h, Bool.false_and, if_neg (by decide)]
theorem due_head {r : Str} (h1 : isKind (kindOf r) = true) (h2 : (Builtin.Str.occurrences r (Str.ofString " ") 0 r.length 1).isEmpty = false) : dueLine r = (if figGood (figs r) then (if szOf r ≤ wnVal (figs r) then .error (Str.ofString "bad_name", Str.ofString "") else .ok (kindOf r, wnVal (figs r), Txt.slice r (some (Txt.find r (Str.ofString " ") + 1)) none))
      else .error (Str.ofString "bad_number", figs r)) := by
  unfold dueLine hasSpc
  rw [h1, h2, Bool.not_false, Bool.and_true, if_pos rfl]
theorem due_num {r : Str} (h1 : isKind (kindOf r) = true) (h2 : (Builtin.Str.occurrences r (Str.ofString " ") 0 r.length 1).isEmpty = false) (h3 : figGood (figs r) = false) : dueLine r = .error (Str.ofString "bad_number", figs r) := by
  rw [due_head h1 h2, h3, if_neg (by decide)]
theorem due_name {r : Str} (h1 : isKind (kindOf r) = true) (h2 : (Builtin.Str.occurrences r (Str.ofString " ") 0 r.length 1).isEmpty = false) (h3 : figGood (figs r) = true) (h4 : szOf r ≤ wnVal (figs r)) : dueLine r = .error (Str.ofString "bad_name", Str.ofString "") := by
  rw [due_head h1 h2, h3, if_pos rfl, if_pos h4]
theorem due_ok {r : Str} (h1 : isKind (kindOf r) = true) (h2 : (Builtin.Str.occurrences r (Str.ofString " ") 0 r.length 1).isEmpty = false) (h3 : figGood (figs r) = true) (h4 : ¬ szOf r ≤ wnVal (figs r)) : dueLine r = .ok (kindOf r, wnVal (figs r), Txt.slice r (some (Txt.find r (Str.ofString " ") + 1)) none) := by
  rw [due_head h1 h2, h3, if_pos rfl, if_neg h4]
noncomputable def Said (p : Prop) : Prop := p
theorem kind_len {r : Str} (h : isKind (kindOf r) = true) : 1 ≤ r.length := by
  rcases Nat.eq_zero_or_pos r.length with h0 | h0
  · have : r = Str.ofString "" := by
      obtain ⟨c⟩ := r
      have : c = #[] := Array.eq_empty_of_size_eq_zero h0
      rw [this]
      rfl
    subst this
    exact absurd h (by decide +kernel)
  · exact h0
theorem ssi1 (n : Nat) (h : 1 ≤ n) : Builtin.Str.strSliceIndices none (some 1) 1 n = [0] := by
  unfold Builtin.Str.strSliceIndices sliceRange
  obtain ⟨k, rfl⟩ : ∃ k, n = k + 1 := ⟨n - 1, by omega⟩
  simp
  rw [show max 0 (min 1 ((k : Int) + 1)) = 1 from by omega]
  rfl
theorem kind_item' {r : Str} (h : 1 ≤ r.length) : Txt.item r 0 = Txt.slice r none (some 1) := by
  unfold Txt.slice Txt.item Txt.charAt
  rw [ssi1 _ h]
  obtain ⟨c⟩ := r
  have h' : 1 ≤ c.size := h
  show (⟨_⟩ : Str) = _
  have e0 : c[0]? = some c[0] := Array.getElem?_eq_getElem h'
  have es : seqIndex? 0 c.size = some 0 := by
    show (if (decide ((0 : Int) ≤ 0) && decide ((0 : Int) < c.size)) = true then some 0 else none) = some 0
    rw [decide_eq_true (show (0 : Int) < c.size by omega)]
    rfl
  show (⟨#[((seqIndex? 0 c.size).bind fun i => c[i]?).getD 0]⟩ : Str) = _
  rw [es]
  simp only [Option.bind_some, e0, Option.getD_some, List.filterMap_cons, List.filterMap_nil]
  split
  · rename_i hh
    have : c.size = 1 := by
      have hh2 := (Bool.and_eq_true_iff.mp hh).2
      exact (eq_of_beq hh2).symm
    congr 1
    apply Array.ext
    · simp [this]
    · intro i h1 h2
      have : i = 0 := by omega
      subst this
      rfl
  · rfl
theorem kind_item {r : Str} (h : isKind (kindOf r) = true) : Txt.item r 0 = kindOf r := by
  exact kind_item' (kind_len h)
theorem kind_sz {r : Str} (h : isKind (kindOf r) = true) : PySem.Spec.lookup (PyData.str (Txt.item r 0)) szD = some (.int (szOf r)) := by
  rw [kind_item h]
  apply sz_some
  unfold isKind at h
  simp only [List.any_cons, List.any_nil, Bool.or_false, Bool.or_eq_true] at h
  rcases h with h | h | h <;> rw [← eq_of_beq h] <;> decide +kernel
theorem wn_int' {t : Str} {g : Bool} (h : (g && (signs t).all dig) = true) (h0 : 1 ≤ t.length) (hl : t.length ≤ 640) : PySem.intText? t = some (wnVal t) :=
  wn_int (List.all_eq_true.mp (Bool.and_eq_true_iff.mp h).2) h0 hl
theorem wn_int_ex {t : Str} {g : Bool} (h : (g && (signs t).all dig) = true) (h0 : 1 ≤ t.length) (hl : t.length ≤ 640) : ∃ n, PySem.intText? t = some n ∧ wnVal t = n := ⟨_, wn_int' h h0 hl, rfl⟩
theorem kind_sz_ex {r : Str} (h : isKind (kindOf r) = true) : ∃ z, PySem.Spec.lookup (PyData.str (Txt.item r 0)) szD = some (.int z) ∧ szOf r = z := ⟨_, kind_sz h, rfl⟩
theorem flag_absurd {g a : Bool} (h1 : (g && a) = true) (h2 : g = false) : False := by
  simp [h2] at h1

theorem flat_elim {P : Value → Prop} {i : Int} (h : ∀ t, P (.int i t)) : ∀ v, PyProof.V.Flat v (PyData.int i) → P v := fun v hv => by
  obtain ⟨t, rfl⟩ := PyProof.V.Flat.int_inv hv
  exact h t

theorem item_kind {prog : Program} {w : World} {A : Around} {E : Value → Shared → Prop} {s : Shared} {d : Addr} {value slice : Expr} {r : Str} {t : Tok} {Q : Value → Shared → Prop} (T : StrTab prog w s.heap d szD) (hk : isKind (kindOf r) = true) (h : ∀ z tz, Said (szOf r = z) → Q (.int z tz) { s with toks := s.toks + 1 })
    (hs : subscripted slice false (.ref d) (.str (Txt.item r 0) t) = operate [.ref d, .str (Txt.item r 0) t] (getItem (.ref d) (.str (Txt.item r 0) t)) := by with_unfolding_all rfl) :
    wpAny (model prog w) A (subscriptTail value slice (.ref d) (.str (Txt.item r 0) t)) Q E s :=
  kba_turn (value' := PySem.Expr.Name (PySem.Str.ofString "_") ⟨0, 0, 0, 0⟩) (fun _ => rfl) (item_strTab T (kind_sz hk) (flat_elim fun _ => h _ _ (show _ = _ from rfl)) hs fun _ => rfl)
theorem int_fig {prog : Program} {w : World} {A : Around} {E : Value → Shared → Prop} {s : Shared} {t : Str} {tt : Tok} {g : Bool} {Q : Value → Shared → Prop} (hg : (g && (signs t).all dig) = true) (h0 : 1 ≤ t.length) (hl : t.length ≤ 640) (h : ∀ n, Said (wnVal t = n) → Q (.int n s.toks) { s with toks := s.toks + 1 }) :
    wpAny (model prog w) A (call (.type "int") [.str t tt]) Q E s :=
  KIN.call_text (wn_int' hg h0 hl) hl (h _ (show _ = _ from rfl))

noncomputable def figHead (f : Str) : Bool := ((f != Str.ofString "") && decide ((f.length : Int) < 19)) && ((Txt.item f 0 != Str.ofString "0") || (f == Str.ofString "0"))
noncomputable def HeadVal (f : Str) (v : Value) : Prop := ∃ b : Bool, v = .bool b ∧ b = figHead f
section
variable {f : Str}
theorem hvA (h1 : (f != Str.ofString "") = true) (h2 : (f.length : Int) < 19) (h3 : (Txt.item f 0 != Str.ofString "0") = true) : HeadVal f (.bool (Txt.item f 0 != Str.ofString "0")) :=
  ⟨_, rfl, by unfold figHead; rw [h1, decide_eq_true h2, h3]; rfl⟩
theorem hvB (h1 : (f != Str.ofString "") = true) (h2 : (f.length : Int) < 19) (h3 : (Txt.item f 0 != Str.ofString "0") = false) : HeadVal f (.bool (f == Str.ofString "0")) :=
  ⟨_, rfl, by unfold figHead; rw [h1, decide_eq_true h2, h3]; rfl⟩
theorem hvC (h : ¬ (f.length : Int) < 19) : HeadVal f (.bool false) :=
  ⟨_, rfl, by unfold figHead; rw [decide_eq_false h, Bool.and_false, Bool.false_and]⟩
theorem hvC' (h : ¬ (f.length : Int) < 19) : HeadVal f (.bool (decide ((f.length : Int) < 19))) :=
  ⟨_, rfl, by unfold figHead; rw [decide_eq_false h, Bool.and_false, Bool.false_and]⟩
theorem hvD (h : (f != Str.ofString "") = false) : HeadVal f (.bool (f != Str.ofString "")) :=
  ⟨_, rfl, by unfold figHead; rw [h, Bool.false_and, Bool.false_and]⟩
theorem hvD' (h : (f != Str.ofString "") = false) : HeadVal f (.bool false) :=
  ⟨_, rfl, by unfold figHead; rw [h, Bool.false_and, Bool.false_and]⟩
theorem fg_t {b : Bool} (hb : b = figHead f) (h : (b && (signs f).all dig) = true) : figGood f = true := by
  subst hb; exact h
theorem fg_f {b : Bool} (hb : b = figHead f) (h : (b && (signs f).all dig) = false) : figGood f = false := by
  subst hb; exact h
theorem fg_len {b : Bool} (hb : b = figHead f) (h : (b && (signs f).all dig) = true) : 1 ≤ f.length ∧ f.length ≤ 640 := by
  subst hb
  unfold figHead at h
  simp only [Bool.and_eq_true, decide_eq_true_eq, bne_iff_ne] at h
  obtain ⟨⟨⟨h1, h2⟩, -⟩, -⟩ := h
  refine ⟨?_, by omega⟩
  rcases Nat.eq_zero_or_pos f.length with e | e
  · exact absurd (by
      obtain ⟨⟨l⟩⟩ := f
      have : l = [] := List.length_eq_zero_iff.mp e
      subst this; rfl) h1
  · exact e
end
theorem int_fig2 {prog : Program} {w : World} {A : Around} {E : Value → Shared → Prop} {s : Shared} {t : Str} {tt : Tok} {g : Bool} {Q : Value → Shared → Prop} (hb : g = figHead t) (hg : (g && (signs t).all dig) = true) (h : ∀ n, Said (wnVal t = n) → Q (.int n s.toks) { s with toks := s.toks + 1 }) :
    wpAny (model prog w) A (call (.type "int") [.str t tt]) Q E s :=
  int_fig hg (fg_len hb hg).1 (fg_len hb hg).2 h
theorem due_ok' {r : Str} {z n n' : Int} (h1 : isKind (kindOf r) = true) (h2 : (Builtin.Str.occurrences r (Str.ofString " ") 0 r.length 1).isEmpty = false) (h3 : figGood (figs r) = true) (hz : Said (szOf r = z)) (hn : Said (wnVal (figs r) = n)) (h4 : ¬ z ≤ n) (hn' : Said (wnVal (figs r) = n')) :
    dueLine r = .ok (Txt.item r 0, n', Txt.slice r (some (Txt.find r (Str.ofString " ") + 1)) none) := by
  have hz : szOf r = z := hz
  have hn : wnVal (figs r) = n := hn
  have hn' : wnVal (figs r) = n' := hn'
  rw [due_ok h1 h2 h3 (by rw [hz, hn]; exact h4), kind_item h1, hn']
theorem due_name' {r : Str} {z n : Int} (h1 : isKind (kindOf r) = true) (h2 : (Builtin.Str.occurrences r (Str.ofString " ") 0 r.length 1).isEmpty = false) (h3 : figGood (figs r) = true) (hz : Said (szOf r = z)) (hn : Said (wnVal (figs r) = n)) (h4 : z ≤ n) : dueLine r = .error (Str.ofString "bad_name", Str.ofString "") := by
  have hz : szOf r = z := hz
  have hn : wnVal (figs r) = n := hn
  exact due_name h1 h2 h3 (by rw [hz, hn]; exact h4)
theorem drop1 {h₀ h : Heap} {L : Addr} {a b : Addr × Obj} {news : List (Addr × Obj)} (N : News h₀ L h (a :: b :: news)) : News h₀ L h (a :: news) := fun p hp => N p (by
  rcases List.mem_cons.mp hp with rfl | hp
  · exact .head _
  · exact .tail _ (.tail _ hp))
theorem kind_item_true {r : Str} (h : isKind (kindOf r) = true) : isKind (Txt.item r 0) = true := by rw [kind_item h]; exact h




theorem ld_ok {w : World} {dp un : Nat} {gd : Option (List Code)} {cn : Str} {cs : Scope} {a : Addr} {ccd : Value} {cl : List (Str × Addr)} {outer : List Env} {A₀ : Around} {base h₀ : Heap} {L : Addr} {m : Str → Option Value} {s : Shared} {Q E : Value → Shared → Prop} {mean : ExcName → Option Value} {mg mb : Str → Option Value}
    {r : Str} {at_ : Int} {tr ta : Tok} {news : List (Addr × Obj)}
    (B : Below A₀ base outer h₀) (F : Fr h₀ L s.heap m) (X : (hd.heap_39 w.params).In h₀) (N : News h₀ L s.heap news)
    (T : Top hd.view_39 (looseW hd.view_39 LS) mean mg mb h₀) (hk : cs.kind = .function)
    (hlen : r.length ≤ 1000)
    (hdp : dp + 10 < recursionLimit) (hu : un + 100 < cLine)
    (err : ∀ (D : Addr) (k d : Str) (t1 t2 t3 : Tok) (h' : Heap) (tk' : Nat), dueLine r = .error (k, d) → isKind k = false →
      Fr h₀ L h' m → News h₀ L h' ((D, { cls := .type "tuple", data := .seq #[.str k t1, .int at_ t2, .str d t3] }) :: news) → AllLt D news → Q (.ref D) { s with heap := h', toks := tk' })
    (ok : ∀ (D : Addr) (k d : Str) (n : Int) (t1 t2 t3 : Tok) (h' : Heap) (tk' : Nat), dueLine r = .ok (k, n, d) → isKind k = true →
      Fr h₀ L h' m → News h₀ L h' ((D, { cls := .type "tuple", data := .seq #[.str k t1, .int n t2, .str d t3] }) :: news) → AllLt D news → Q (.ref D) { s with heap := h', toks := tk' }) :
    wpAny (model Challenge.rw_on0091_01.row.prog w) (ktrTop dp un gd cn cs L a ccd cl outer) (call (.ref 150) [.str r tr, .int at_ ta]) Q E s := by
  k_with_none
  (k_with "w k_ne" => (refine neN ?_; (try dsimp only); with_reducible first | assumption | exact Ne.symm (by assumption) | exact Nat.ne_of_gt (by first | assumption | exact cj1 (by assumption) | exact ej2 (by assumption) | exact cj2 (by assumption) | exact ej3 (by assumption) | exact cj3 (by assumption) | exact ej4 (by assumption) | exact cj4 (by assumption) | exact ej5 (by assumption) | exact cj5 (by assumption) | exact ej6 (by assumption) | exact cj6 (by assumption) | exact ej7 (by assumption) | exact cj7 (by assumption) | exact ej8 (by assumption) | exact cj8 (by assumption) | exact ej9 (by assumption) | exact cj9 (by assumption) | exact ej10 (by assumption) | exact cj10 (by assumption) | exact ej11 (by assumption)) | exact Nat.ne_of_lt (by first | assumption | exact cj1 (by assumption) | exact ej2 (by assumption) | exact cj2 (by assumption) | exact ej3 (by assumption) | exact cj3 (by assumption) | exact ej4 (by assumption) | exact cj4 (by assumption) | exact ej5 (by assumption) | exact cj5 (by assumption) | exact ej6 (by assumption) | exact cj6 (by assumption) | exact ej7 (by assumption) | exact cj7 (by assumption) | exact ej8 (by assumption) | exact cj8 (by assumption) | exact ej9 (by assumption) | exact cj9 (by assumption) | exact ej10 (by assumption) | exact cj10 (by assumption) | exact ej11 (by assumption))))
  (k_with "w lt" => ((try dsimp only); with_reducible first | assumption | exact cj1 (by assumption) | exact ej2 (by assumption) | exact cj2 (by assumption) | exact ej3 (by assumption) | exact cj3 (by assumption) | exact ej4 (by assumption) | exact cj4 (by assumption) | exact ej5 (by assumption) | exact cj5 (by assumption) | exact ej6 (by assumption) | exact cj6 (by assumption) | exact ej7 (by assumption) | exact cj7 (by assumption) | exact ej8 (by assumption) | exact cj8 (by assumption) | exact ej9 (by assumption) | exact cj9 (by assumption) | exact ej10 (by assumption) | exact cj10 (by assumption) | exact ej11 (by assumption)))
  (k_with "w room" => first | exact Nat.le_of_ble_eq_true rfl | exact room0 (by assumption) rfl | exact room1 (by assumption) rfl | exact room2 (by assumption) rfl)
  (k_with "w size" => first | exact Nat.le_of_ble_eq_true rfl | exact Nat.le_trans (by with_reducible assumption) (Nat.le_of_ble_eq_true rfl))
  (k_with "w k_all" => with_reducible assumption)
  (k_with "w eval Dict" => (k_here; k_dflt (refine kdn_str (by rfl) (by k_asm) (by first | k_asm | exact News.nil) (by exact Top.nolimit (by k_asm)) (by rfl) (by rfl) (by exact List.cons_ne_nil _ _) (by exact Nat.le_of_ble_eq_true rfl) ?_); intro dww hww oww Fww Nww l1ww loww hdww; (try k_lt l1ww)))
  (k_with "w exec For Name Name cons nil" => (k_here; k_dflt (refine flag_loop (gn := Str.ofString "good") (by k_asm) (by k_asm) (by (intro Qww hqww; walk_at "eval Name"; exact hqww)) (by omega) (by with_unfolding_all rfl) (by decide) ?_ ?_ (by with_unfolding_all rfl) (by with_unfolding_all rfl) (by with_unfolding_all rfl))))
  (k_with "w FlagPost" => first | (refine flag_set (by with_reducible assumption) (by k_asm) (by k_asm)) | (refine flag_keep (by decide) (by with_reducible assumption) (by k_asm) (by k_asm)))
  (k_with "w call type:int" => (k_here; (with_reducible show wpAny _ _ (call (Value.type "int") [Value.str _ _]) _ _ _); first | (exfalso; with_reducible exact flag_absurd (by assumption) (by assumption)) | k_dflt ((with_reducible rename (List.any [_, _, _] _ = true) => hk8ww); (have hk9ww := kind_len hk8ww); refine int_fig2 (by with_reducible assumption) (by with_reducible assumption) ?_; intro n9ww hn9ww)))
  (k_with "w subscriptTail" => (k_here; (with_reducible show wpAny _ _ (subscriptTail _ _ (Value.ref _) (Value.str _ _)) _ _ _); k_dflt ((with_reducible rename (List.any [_, _, _] _ = true) => hk8ww); refine item_kind (by k_tabat) (by exact hk8ww) ?_; intro z9ww t9ww hz9ww; (repeat ((with_reducible rename PyProof.V.FlatPairs _ _ _ => q1ww); clear q1ww)); (repeat ((with_reducible rename PySem.Obj.IsDictOf _ _ _ => q1ww); clear q1ww)))))
  (k_with "w ite" => ((with_reducible rename Said (szOf _ = _) => q9ww); (try dsimp only); (refine split_dec ?_ ?_ <;> intro _)))
  (k_with "w execs cons" => ((with_reducible show wpAny _ _ (execs [Stmt.Assign _ _ _, Stmt.For _ _ _ _ _, Stmt.If _ _ _ _, Stmt.If _ _ _ _, Stmt.Return _ _] _) _ _ _); refine Held.get ?_))
  revert X
  k_fill
  intro X
  refine wpAny_call ?_
  k_dflt cell_enter
  k_steps
  · refine' err _ _ _ _ _ _ _ _ (due_row1 ?h9) (by decide) ?f9 (drop1 ?n9) ?l9
    case h9 => with_reducible assumption
    case f9 => with_reducible assumption
    case n9 => with_reducible assumption
    case l9 => tbn_find
  · exfalso
    with_reducible rename ((Builtin.Str.occurrences r _ 0 _ 1).isEmpty = true) => q1
    with_reducible rename ((Builtin.Str.occurrences r _ 0 _ 1).isEmpty = false) => q2
    rw [q1] at q2
    cases q2
  · unfold Held
    (rename Fr _ _ _ _ => fE)
    (rename News _ _ _ _ => nE)
    refine exec_cutS (Str.ofString "good") (HeadVal (figs r)) fE nE ?_ ?_
    · k_steps
      all_goals (
        (rename Fr _ _ _ _ => fF)
        (rename News _ _ _ _ => nF)
        refine' cut_post fF nF ?sub ?hx ?hz ?hP
        case sub => exact fun p hp => by repeat' (first | exact hp | apply List.Mem.tail)
        case hx => first | exact if_pos rfl | exact (if_neg (by decide)).trans (if_pos rfl)
        case hz => first | exact fun z hz => if_neg hz | exact fun _ _ => rfl
        case hP => first | exact hvA (by with_reducible assumption) (by with_reducible assumption) (by with_reducible assumption) | exact hvB (by with_reducible assumption) (by with_reducible assumption) (by with_reducible assumption) | exact hvC (by with_reducible assumption) | exact hvD (by with_reducible assumption) | exact hvC' (by with_reducible assumption) | exact hvD' (by with_reducible assumption))
    intro v h tk hP F1 N1
    obtain ⟨b, rfl, hb⟩ := hP
    clear fE nE
    dsimp only at F1 N1 ⊢
    k_steps
    · refine' err _ _ _ _ _ _ _ _ (due_name' ?h1 ?h2 (fg_t hb ?g) ?z ?v ?w) (by decide) ?f (drop1 (drop1 ?n)) ?l
      case h1 => with_reducible assumption
      case h2 => with_reducible assumption
      case g => with_reducible assumption
      case w => with_reducible assumption
      case z => with_reducible assumption
      case v => with_reducible assumption
      case f => with_reducible assumption
      case n => with_reducible assumption
      case l => tbn_find
    · refine' ok _ _ _ _ _ _ _ _ _ (due_ok' ?h3 ?h4 (fg_t hb ?g2) ?z2 ?v2 ?w2 ?u2) (kind_item_true ?h5) ?f2 (drop1 (drop1 ?n2)) ?l2
      case n2 => with_reducible assumption
      case h3 => with_reducible assumption
      case h4 => with_reducible assumption
      case h5 => with_reducible assumption
      case g2 => with_reducible assumption
      case w2 => with_reducible assumption
      case z2 => with_reducible assumption
      case v2 => with_reducible assumption
      case u2 => with_reducible assumption
      case f2 => with_reducible assumption
      case l2 => tbn_find
    · refine' err _ _ _ _ _ _ _ _ (due_num ?h6 ?h7 (fg_f hb ?g3)) (by decide) ?f3 (drop1 ?n3) ?l3
      case h6 => with_reducible assumption
      case h7 => with_reducible assumption
      case g3 => with_reducible assumption
      case f3 => with_reducible assumption
      case n3 => with_reducible assumption
      case l3 => tbn_find
  · refine' err _ _ _ _ _ _ _ _ (due_row2 ?h8) (by decide) ?f8 (drop1 ?n8) ?l8
    case h8 => with_reducible assumption
    case f8 => with_reducible assumption
    case n8 => with_reducible assumption
    case l8 => tbn_find
end Mine
end

section
open PySem PySem.W PySem.Spec PySem.Calls PyProof.Rows
namespace Mine
theorem w_off_C11a : True := by
  w_top off
  exact trivial
set_option maxRecDepth 100000
set_option maxHeartbeats 4000000

/-! ## what is due for the lines, plainly -/
noncomputable def dueGo (ended : Bool) : List Str → Int → List (Str × Int × Str) → Option (List Str) → Res
  | [], _, nms, rem => .ok nms (rem.getD [])
  | l :: r, at_, nms, rem =>
    if r.isEmpty && !ended && l != Str.ofString "" then .err (Str.ofString "cut_off") (at_ + l.length) (Str.ofString "")
    else if r.isEmpty && !ended then .ok nms (rem.getD [])
    else match rem with
      | some rs => dueGo ended r (at_ + l.length + 1) nms (some (rs ++ [l]))
      | none =>
        if l == Str.ofString "c" then dueGo ended r (at_ + l.length + 1) nms (some [])
        else match dueLine l with
          | .error (k, d) => .err k at_ d
          | .ok n => dueGo ended r (at_ + l.length + 1) (nms ++ [n]) none
section
variable {ended : Bool} {ls : List Str} {i : Nat} {l : Str} {at_ : Int} {nms : List (Str × Int × Str)} {rem : Option (List Str)} {rs : List Str}
theorem drop_at (h : ls[i]? = some l) : ls.drop i = l :: ls.drop (i + 1) := by
  obtain ⟨hi, rfl⟩ := List.getElem?_eq_some_iff.mp h
  exact List.drop_eq_getElem_cons hi
theorem drop_last (h : ((i : Nat) : Int) = (ls.length : Int) - 1) : (ls.drop (i + 1)).isEmpty = true := by
  rw [List.isEmpty_iff, List.drop_eq_nil_iff]
  omega
theorem drop_more (h : ls[i]? = some l) (h2 : ¬ ((i : Nat) : Int) = (ls.length : Int) - 1) : (ls.drop (i + 1)).isEmpty = false := by
  obtain ⟨hi, rfl⟩ := List.getElem?_eq_some_iff.mp h
  rw [List.isEmpty_eq_false_iff, Ne, List.drop_eq_nil_iff]
  omega
theorem du_cut (h : ls[i]? = some l) (h1 : ((i : Nat) : Int) = (ls.length : Int) - 1) (h2 : ended = false) (h3 : (l != Str.ofString "") = true) : dueGo ended (ls.drop i) at_ nms rem = .err (Str.ofString "cut_off") (at_ + l.length) (Str.ofString "") := by
  rw [drop_at h]
  unfold dueGo
  rw [drop_last h1, h2, h3]
  rfl
theorem du_brk (h : ls[i]? = some l) (h1 : ((i : Nat) : Int) = (ls.length : Int) - 1) (h2 : ended = false) (h3 : (l != Str.ofString "") = false) : dueGo ended (ls.drop i) at_ nms rem = .ok nms (rem.getD []) := by
  rw [drop_at h]
  unfold dueGo
  rw [drop_last h1, h2, h3]
  rfl
theorem du_end : dueGo ended (ls.drop ls.length) at_ nms rem = .ok nms (rem.getD []) := by
  rw [List.drop_length]
  rfl
noncomputable def GoOn (ended : Bool) (ls : List Str) (i : Nat) : Prop := ((ls.drop (i + 1)).isEmpty && !ended) = false
theorem goOn1 (h : ended = true) : GoOn ended ls i := by unfold GoOn; rw [h]; simp
theorem goOn2 (h : ls[i]? = some l) (h2 : ¬ ((i : Nat) : Int) = (ls.length : Int) - 1) : GoOn ended ls i := by unfold GoOn; rw [drop_more h h2]; rfl
theorem du_rem (h : ls[i]? = some l) (g : GoOn ended ls i) : dueGo ended (ls.drop i) at_ nms (some rs) = dueGo ended (ls.drop (i + 1)) (at_ + l.length + 1) nms (some (rs ++ [l])) := by
  unfold GoOn at g
  rw [drop_at h]
  conv => lhs; unfold dueGo
  rw [g]
  rfl
theorem du_c (h : ls[i]? = some l) (g : GoOn ended ls i) (hc : (l == Str.ofString "c") = true) : dueGo ended (ls.drop i) at_ nms none = dueGo ended (ls.drop (i + 1)) (at_ + l.length + 1) nms (some []) := by
  unfold GoOn at g
  rw [drop_at h]
  conv => lhs; unfold dueGo
  rw [g, Bool.false_and, if_neg (by decide), if_neg (by decide)]
  dsimp only
  rw [hc, if_pos rfl]
theorem du_bad {k d : Str} (h : ls[i]? = some l) (g : GoOn ended ls i) (hc : (l == Str.ofString "c") = false) (hd : dueLine l = .error (k, d)) : dueGo ended (ls.drop i) at_ nms none = .err k at_ d := by
  unfold GoOn at g
  rw [drop_at h]
  conv => lhs; unfold dueGo
  rw [g, Bool.false_and, if_neg (by decide), if_neg (by decide)]
  dsimp only
  rw [hc, if_neg (by decide), hd]
theorem du_good {n : Str × Int × Str} (h : ls[i]? = some l) (g : GoOn ended ls i) (hc : (l == Str.ofString "c") = false) (hd : dueLine l = .ok n) : dueGo ended (ls.drop i) at_ nms none = dueGo ended (ls.drop (i + 1)) (at_ + l.length + 1) (nms ++ [n]) none := by
  unfold GoOn at g
  rw [drop_at h]
  conv => lhs; unfold dueGo
  rw [g, Bool.false_and, if_neg (by decide), if_neg (by decide)]
  dsimp only
  rw [hc, if_neg (by decide), hd]
end

noncomputable abbrev dTemps : List Str := [Str.ofString "turn", Str.ofString "line", Str.ofString "found"]
noncomputable def DuI (ended : Bool) (ls : List Str) (res : Res) (i : Nat) (at_ : Int) (nms : List (Str × Int × Str)) (rem : Option (List Str)) : Prop := dueGo ended (ls.drop i) at_ nms rem = res

noncomputable def DuPost (ended : Bool) (ls : List Str) (res : Res) (Q : Flow → Shared → Prop) (h₀ : Heap) (L : Addr) (m₀ : Str → Option Value) (nm ll I : Addr) (ol oI : Obj) (rest : List (Addr × Obj)) (i : Nat) (s : Shared) (f : Flow) (s₃ : Shared) : Prop :=
  match f with
  | .ret v => Q (.ret v) s₃
  | .brk => Q .next s₃
  | _ => ∃ h' tk' m' at' t' vls nms c tl, s₃ = { s with heap := h', toks := tk' } ∧ Fr h₀ L h' m' ∧ m' (Str.ofString "at") = some (.int at' t') ∧ (∀ z, z ≠ Str.ofString "at" → z ≠ Str.ofString "remark" → dTemps.contains z = false → m' z = m₀ z) ∧
      DatAll tl vls (nms.map datName) ∧ vls.length ≤ i + 1 ∧ (∀ q ∈ tl ++ rest, q.1 ≠ nm) ∧ (∀ q ∈ tl ++ rest, q.1 ≠ I) ∧
      ((m' (Str.ofString "remark") = some .none ∧ News h₀ L h' ((I, oI) :: (nm, listOf vls.toArray c) :: (ll, ol) :: (tl ++ rest)) ∧ DuI ended ls res (i + 1) at' nms none) ∨
       (∃ rl rvs rs rc, m' (Str.ofString "remark") = some (.ref rl) ∧ StrsAre rvs rs ∧ rs.length ≤ i + 1 ∧ @Ne Nat rl I ∧ @Ne Nat nm rl ∧ @Ne Nat ll rl ∧ (∀ q ∈ tl ++ rest, q.1 ≠ rl) ∧
         News h₀ L h' ((I, oI) :: (nm, listOf vls.toArray c) :: (ll, ol) :: (rl, listOf rvs.toArray rc) :: (tl ++ rest)) ∧ DuI ended ls res (i + 1) at' nms (some rs)))

theorem du_map {m m₀ : Str → Option Value} {at_ : Int} {t : Tok} {rv : Value} {x : Option Value} (h1 : m (Str.ofString "at") = some (.int at_ t)) (h2 : m (Str.ofString "remark") = some rv) (h3 : ∀ z, z ≠ Str.ofString "at" → z ≠ Str.ofString "remark" → dTemps.contains z = false → m z = m₀ z) :
    (fun y => if y = Str.ofString "turn" then x else m y) = fun y => if y = Str.ofString "turn" then x else if y = Str.ofString "at" then some (.int at_ t) else if y = Str.ofString "remark" then some rv else if dTemps.contains y = true then m y else m₀ y := by
  funext y
  by_cases e1 : y = Str.ofString "turn"
  · rw [if_pos e1, if_pos e1]
  rw [if_neg e1, if_neg e1]
  by_cases e2 : y = Str.ofString "at"
  · rw [if_pos e2, e2, h1]
  rw [if_neg e2]
  by_cases e3 : y = Str.ofString "remark"
  · rw [if_pos e3, e3, h2]
  rw [if_neg e3]
  cases e4 : dTemps.contains y with
  | true => rfl
  | false => rw [h3 y e2 e3 e4]; rfl
theorem du_map' {m m₀ : Str → Option Value} {at_ : Int} {t : Tok} {rv : Value} (h1 : m (Str.ofString "at") = some (.int at_ t)) (h2 : m (Str.ofString "remark") = some rv) (h3 : ∀ z, z ≠ Str.ofString "at" → z ≠ Str.ofString "remark" → dTemps.contains z = false → m z = m₀ z) :
    m = fun y => if y = Str.ofString "at" then some (.int at_ t) else if y = Str.ofString "remark" then some rv else if dTemps.contains y = true then m y else m₀ y := by
  funext y
  by_cases e2 : y = Str.ofString "at"
  · rw [if_pos e2, e2, h1]
  rw [if_neg e2]
  by_cases e3 : y = Str.ofString "remark"
  · rw [if_pos e3, e3, h2]
  rw [if_neg e3]
  cases e4 : dTemps.contains y with
  | true => rfl
  | false => rw [h3 y e2 e3 e4]; rfl

theorem due_loop {prog : Program} {w : World} {A : Around} {E : Value → Shared → Prop} {Q : Flow → Shared → Prop} {s : Shared} {env : Env} {h₀ : Heap} {body : List Stmt} {r : Addr} {b₀ : Int} {t₀ u₀ v₀ ta : Tok} {m₀ : Str → Option Value} {nm ll : Addr} {ol : Obj} {c0 : Nat} {rest : List (Addr × Obj)} (ended : Bool) (ls : List Str) (start : Int)
    (hr : IsRange s.heap r 0 b₀ 1 t₀ u₀ v₀) (hb : b₀ = (ls.length : Int)) (hn1 : ls.length ≤ 20)
    (F : Fr h₀ env.locals s.heap m₀) (N : News h₀ env.locals s.heap ((nm, listOf ([] : List Value).toArray c0) :: (ll, ol) :: rest)) (hm1 : m₀ (Str.ofString "at") = some (.int start ta)) (hm2 : m₀ (Str.ofString "remark") = some .none)
    (hr1 : ∀ q ∈ rest, q.1 ≠ nm) (hll : @Ne Nat ll nm)
    (turnN : ∀ i (line : Str) t at_ ta vls nms c tl I oI h tk (u : Str → Option Value), i < 20 → vls.length ≤ 20 → ls[i]? = some line → DatAll tl vls (nms.map datName) → vls.length ≤ i → DuI ended ls (dueGo ended ls start [] none) i at_ nms none → (∀ q ∈ tl ++ rest, q.1 ≠ nm) → (∀ q ∈ tl ++ rest, q.1 ≠ I) → @Ne Nat nm I → @Ne Nat ll I → oI.cls = .type "range_iterator" →
      Fr h₀ env.locals h (fun y => if y = Str.ofString "turn" then some (.int (i : Nat) t) else if y = Str.ofString "at" then some (.int at_ ta) else if y = Str.ofString "remark" then some .none else if dTemps.contains y = true then u y else m₀ y) →
      News h₀ env.locals h ((I, oI) :: (nm, listOf vls.toArray c) :: (ll, ol) :: (tl ++ rest)) →
      wpAny (model prog w) A (execs body env) (DuPost ended ls (dueGo ended ls start [] none) Q h₀ env.locals m₀ nm ll I ol oI rest i s) E { s with heap := h, toks := tk })
    (turnS : ∀ i (line : Str) t at_ ta vls nms c rl rvs rs rc tl I oI h tk (u : Str → Option Value), i < 20 → rvs.length ≤ 20 → ls[i]? = some line → DatAll tl vls (nms.map datName) → vls.length ≤ i → StrsAre rvs rs → rs.length ≤ i → DuI ended ls (dueGo ended ls start [] none) i at_ nms (some rs) → (∀ q ∈ tl ++ rest, q.1 ≠ nm) → (∀ q ∈ tl ++ rest, q.1 ≠ I) → @Ne Nat nm I → @Ne Nat ll I → @Ne Nat rl I → @Ne Nat nm rl → @Ne Nat ll rl → (∀ q ∈ tl ++ rest, q.1 ≠ rl) → oI.cls = .type "range_iterator" →
      Fr h₀ env.locals h (fun y => if y = Str.ofString "turn" then some (.int (i : Nat) t) else if y = Str.ofString "at" then some (.int at_ ta) else if y = Str.ofString "remark" then some (.ref rl) else if dTemps.contains y = true then u y else m₀ y) →
      News h₀ env.locals h ((I, oI) :: (nm, listOf vls.toArray c) :: (ll, ol) :: (rl, listOf rvs.toArray rc) :: (tl ++ rest)) →
      wpAny (model prog w) A (execs body env) (DuPost ended ls (dueGo ended ls start [] none) Q h₀ env.locals m₀ nm ll I ol oI rest i s) E { s with heap := h, toks := tk })
    (doneN : ∀ at_ ta vls nms c tl h tk (u : Str → Option Value), vls.length ≤ 20 → DatAll tl vls (nms.map datName) → dueGo ended ls start [] none = .ok nms [] →
      Fr h₀ env.locals h (fun y => if y = Str.ofString "at" then some (.int at_ ta) else if y = Str.ofString "remark" then some .none else if dTemps.contains y = true then u y else m₀ y) → News h₀ env.locals h ((nm, listOf vls.toArray c) :: (ll, ol) :: (tl ++ rest)) → Q .next { s with heap := h, toks := tk })
    (doneS : ∀ at_ ta vls nms c rl rvs rs rc tl h tk (u : Str → Option Value), vls.length ≤ 20 → rvs.length ≤ 20 → DatAll tl vls (nms.map datName) → StrsAre rvs rs → dueGo ended ls start [] none = .ok nms rs →
      Fr h₀ env.locals h (fun y => if y = Str.ofString "at" then some (.int at_ ta) else if y = Str.ofString "remark" then some (.ref rl) else if dTemps.contains y = true then u y else m₀ y) → News h₀ env.locals h ((nm, listOf vls.toArray c) :: (ll, ol) :: (rl, listOf rvs.toArray rc) :: (tl ++ rest)) → Q .next { s with heap := h, toks := tk })
    (hh : A.handled = none) :
    wpAny (model prog w) A (pyIter (.ref r)) (fun it s₂ => LoopAtV prog w A h₀ env (Str.ofString "turn") body Q E it s₂) E s := by
  subst hb
  refine rng_inv (n := ls.length) (fun i m nx => i ≤ ls.length ∧ ∃ at_ ta vls nms c tl, m (Str.ofString "at") = some (.int at_ ta) ∧ (∀ z, z ≠ Str.ofString "at" → z ≠ Str.ofString "remark" → dTemps.contains z = false → m z = m₀ z) ∧ DatAll tl vls (nms.map datName) ∧ vls.length ≤ i ∧ (∀ q ∈ tl ++ rest, q.1 ≠ nm) ∧
      ((m (Str.ofString "remark") = some .none ∧ nx = (nm, listOf vls.toArray c) :: (ll, ol) :: (tl ++ rest) ∧ DuI ended ls (dueGo ended ls start [] none) i at_ nms none) ∨
       (∃ rl rvs rs rc, m (Str.ofString "remark") = some (.ref rl) ∧ StrsAre rvs rs ∧ rs.length ≤ i ∧ @Ne Nat nm rl ∧ @Ne Nat ll rl ∧ (∀ q ∈ tl ++ rest, q.1 ≠ rl) ∧
         nx = (nm, listOf vls.toArray c) :: (ll, ol) :: (rl, listOf rvs.toArray rc) :: (tl ++ rest) ∧ DuI ended ls (dueGo ended ls start [] none) i at_ nms (some rs))))
    hr ?_ ?_ F N ⟨Nat.zero_le _, start, ta, [], [], c0, [], hm1, fun _ _ _ _ => rfl, .nil, Nat.le_refl _, hr1, .inl ⟨hm2, rfl, rfl⟩⟩ ?_ ?_ hh
  · refine small_one (by decide) (by decide) (by omega) (by omega)
  · exact rangeSize_nat _ _
  · rintro i t m₁ nx h tk I oI hi ⟨_, at_, ta', vls, nms, c, tl, h1, h3, hS, hv, hA, hrem⟩ hI hcI F₁ N₁
    have hl : ls[i]? = some ls[i] := List.getElem?_eq_getElem hi
    have conv : ∀ f s₃, DuPost ended ls (dueGo ended ls start [] none) Q h₀ env.locals m₀ nm ll I ol oI rest i s f s₃ → (match f with
        | .ret v => Q (.ret v) s₃
        | .brk => Q .next s₃
        | _ => ∃ h' tk' m₂ nx₂, s₃ = { s with heap := h', toks := tk' } ∧ Fr h₀ env.locals h' m₂ ∧ News h₀ env.locals h' ((I, oI) :: nx₂) ∧ (∀ p ∈ nx₂, p.1 ≠ I) ∧ (i + 1 ≤ ls.length ∧ ∃ at_ ta vls nms c tl, m₂ (Str.ofString "at") = some (.int at_ ta) ∧ (∀ z, z ≠ Str.ofString "at" → z ≠ Str.ofString "remark" → dTemps.contains z = false → m₂ z = m₀ z) ∧ DatAll tl vls (nms.map datName) ∧ vls.length ≤ i + 1 ∧ (∀ q ∈ tl ++ rest, q.1 ≠ nm) ∧
      ((m₂ (Str.ofString "remark") = some .none ∧ nx₂ = (nm, listOf vls.toArray c) :: (ll, ol) :: (tl ++ rest) ∧ DuI ended ls (dueGo ended ls start [] none) (i + 1) at_ nms none) ∨
       (∃ rl rvs rs rc, m₂ (Str.ofString "remark") = some (.ref rl) ∧ StrsAre rvs rs ∧ rs.length ≤ i + 1 ∧ @Ne Nat nm rl ∧ @Ne Nat ll rl ∧ (∀ q ∈ tl ++ rest, q.1 ≠ rl) ∧
         nx₂ = (nm, listOf vls.toArray c) :: (ll, ol) :: (rl, listOf rvs.toArray rc) :: (tl ++ rest) ∧ DuI ended ls (dueGo ended ls start [] none) (i + 1) at_ nms (some rs)))) : Prop) := by
      have hnI : nm ≠ I := by
        rcases hrem with ⟨_, rfl, _⟩ | ⟨rl, rvs, rs, rc, _, _, _, _, _, _, rfl, _⟩
        · exact hI _ (.head _)
        · exact hI _ (.head _)
      have hlI : ll ≠ I := by
        rcases hrem with ⟨_, rfl, _⟩ | ⟨rl, rvs, rs, rc, _, _, _, _, _, _, rfl, _⟩
        · exact hI _ (.tail _ (.head _))
        · exact hI _ (.tail _ (.head _))
      intro f s₃ p
      cases f with
      | ret v => exact p
      | brk => exact p
      | next =>
        obtain ⟨h', tk', m', at', t', vls', nms', c', tl', rfl, F', p1, p2, p3, p4, p5, p6, p7⟩ := p
        rcases p7 with ⟨q1, q2, q3⟩ | ⟨rl, rvs, rs, rc, q1, q2, q3, q4, q5, q6, q7, q8, q9⟩
        · refine ⟨h', tk', m', _, rfl, F', q2, ?_, hi, at', t', vls', nms', c', tl', p1, p2, p3, p4, p5, .inl ⟨q1, rfl, q3⟩⟩
          intro p hp
          rcases List.mem_cons.mp hp with rfl | hp
          · exact hnI
          rcases List.mem_cons.mp hp with rfl | hp
          · exact hlI
          · exact p6 p hp
        · refine ⟨h', tk', m', _, rfl, F', q8, ?_, hi, at', t', vls', nms', c', tl', p1, p2, p3, p4, p5, .inr ⟨rl, rvs, rs, rc, q1, q2, q3, q5, q6, q7, rfl, q9⟩⟩
          intro p hp
          rcases List.mem_cons.mp hp with rfl | hp
          · exact hnI
          rcases List.mem_cons.mp hp with rfl | hp
          · exact hlI
          rcases List.mem_cons.mp hp with rfl | hp
          · exact q4
          · exact p6 p hp
      | cont =>
        obtain ⟨h', tk', m', at', t', vls', nms', c', tl', rfl, F', p1, p2, p3, p4, p5, p6, p7⟩ := p
        rcases p7 with ⟨q1, q2, q3⟩ | ⟨rl, rvs, rs, rc, q1, q2, q3, q4, q5, q6, q7, q8, q9⟩
        · refine ⟨h', tk', m', _, rfl, F', q2, ?_, hi, at', t', vls', nms', c', tl', p1, p2, p3, p4, p5, .inl ⟨q1, rfl, q3⟩⟩
          intro p hp
          rcases List.mem_cons.mp hp with rfl | hp
          · exact hnI
          rcases List.mem_cons.mp hp with rfl | hp
          · exact hlI
          · exact p6 p hp
        · refine ⟨h', tk', m', _, rfl, F', q8, ?_, hi, at', t', vls', nms', c', tl', p1, p2, p3, p4, p5, .inr ⟨rl, rvs, rs, rc, q1, q2, q3, q5, q6, q7, rfl, q9⟩⟩
          intro p hp
          rcases List.mem_cons.mp hp with rfl | hp
          · exact hnI
          rcases List.mem_cons.mp hp with rfl | hp
          · exact hlI
          rcases List.mem_cons.mp hp with rfl | hp
          · exact q4
          · exact p6 p hp
    rcases hrem with ⟨q1, rfl, q3⟩ | ⟨rl, rvs, rs, rc, q1, q2, q3, q5, q6, q7, rfl, q9⟩
    · rw [du_map h1 q1 h3] at F₁
      exact wpAny_mono (turnN i _ t at_ ta' vls nms c tl I oI h tk m₁ (by omega) (by omega) hl hS hv q3 hA (fun q hq => hI q (.tail _ (.tail _ hq))) (hI _ (.head _)) (hI _ (.tail _ (.head _))) hcI F₁ N₁) (fun f s₃ p => conv f s₃ p) fun _ _ e => e
    · rw [du_map h1 q1 h3] at F₁
      have := q2.length
      exact wpAny_mono (turnS i _ t at_ ta' vls nms c rl rvs rs rc tl I oI h tk m₁ (by omega) (by omega) hl hS hv q2 q3 q9 hA (fun q hq => hI q (.tail _ (.tail _ (.tail _ hq)))) (hI _ (.head _)) (hI _ (.tail _ (.head _))) (hI _ (.tail _ (.tail _ (.head _)))) q5 q6 q7 hcI F₁ N₁) (fun f s₃ p => conv f s₃ p) fun _ _ e => e
  · rintro m₁ nx h tk ⟨_, at_, ta', vls, nms, c, tl, h1, h3, hS, hv, hA, hrem⟩ F₁ N₁
    rcases hrem with ⟨q1, rfl, q3⟩ | ⟨rl, rvs, rs, rc, q1, q2, q3, q5, q6, q7, rfl, q9⟩
    · rw [du_map' h1 q1 h3] at F₁
      exact doneN at_ ta' vls nms c tl h tk m₁ (by omega) hS (q3.symm.trans du_end) F₁ N₁
    · rw [du_map' h1 q1 h3] at F₁
      have := q2.length
      exact doneS at_ ta' vls nms c rl rvs rs rc tl h tk m₁ (by omega) (by omega) hS q2 (q9.symm.trans du_end) F₁ N₁
end Mine
end

section
open PySem PySem.W PySem.Spec PySem.Calls PyProof.Rows
namespace Mine
theorem w_off_C11b : True := by
  w_top off
  exact trivial
set_option maxRecDepth 100000
set_option maxHeartbeats 4000000
theorem du_err_dat {D : Addr} {k d : Str} {a : Int} {t1 t2 t3 : Tok} {res : Res} (h : res = .err k a d) : DatIn [(D, { cls := .type "tuple", data := .seq #[.str k t1, .int a t2, .str d t3] })] (.ref D) (resDat res) := by
  rw [h]; exact err_dat
theorem du_ok_dat {D a b : Addr} {c : Nat} {vls rv : List Value} {tl : List (Addr × Obj)} {nms : List (Str × Int × Str)} {rs : List Str} {res : Res} (h : res = .ok nms rs) (hS : DatAll tl vls (nms.map datName)) (hR : StrsAre rv rs) :
    DatIn ((D, { cls := .type "tuple", data := .seq #[.ref a, .ref b] }) :: (b, { cls := .type "tuple", data := .seq rv.toArray c }) :: (a, { cls := .type "tuple", data := .seq vls.toArray }) :: tl) (.ref D) (resDat res) := by
  rw [h]
  exact rn_close hS hR
theorem du_keep {z : Str} (h : dTemps.contains z = false) : z ≠ Str.ofString "turn" ∧ z ≠ Str.ofString "line" ∧ z ≠ Str.ofString "found" :=
  ⟨fun e => by subst e; exact absurd h (by decide), fun e => by subst e; exact absurd h (by decide), fun e => by subst e; exact absurd h (by decide)⟩
theorem du_k1 {z : Str} {v1 v2 v3 v4 v5 v6 u m : Option Value} (h1 : z ≠ Str.ofString "at") (h2 : z ≠ Str.ofString "remark") (h3 : dTemps.contains z = false) :
    (if z = Str.ofString "at" then v1 else if z = Str.ofString "found" then v2 else if z = Str.ofString "line" then v3 else if z = Str.ofString "turn" then v4 else if z = Str.ofString "at" then v5 else if z = Str.ofString "remark" then v6 else if dTemps.contains z = true then u else m) = m := by
  obtain ⟨e1, e2, e3⟩ := du_keep h3
  rw [if_neg h1, if_neg e3, if_neg e2, if_neg e1, if_neg h1, if_neg h2, h3, if_neg (by decide)]
theorem du_k2 {z : Str} {v1 v2 v3 v4 v5 v6 u m : Option Value} (h1 : z ≠ Str.ofString "at") (h2 : z ≠ Str.ofString "remark") (h3 : dTemps.contains z = false) :
    (if z = Str.ofString "at" then v1 else if z = Str.ofString "remark" then v2 else if z = Str.ofString "line" then v3 else if z = Str.ofString "turn" then v4 else if z = Str.ofString "at" then v5 else if z = Str.ofString "remark" then v6 else if dTemps.contains z = true then u else m) = m := by
  obtain ⟨e1, e2, e3⟩ := du_keep h3
  rw [if_neg h1, if_neg h2, if_neg e2, if_neg e1, if_neg h1, if_neg h2, h3, if_neg (by decide)]
theorem du_k3 {z : Str} {v1 v3 v4 v5 v6 u m : Option Value} (h1 : z ≠ Str.ofString "at") (h2 : z ≠ Str.ofString "remark") (h3 : dTemps.contains z = false) :
    (if z = Str.ofString "at" then v1 else if z = Str.ofString "line" then v3 else if z = Str.ofString "turn" then v4 else if z = Str.ofString "at" then v5 else if z = Str.ofString "remark" then v6 else if dTemps.contains z = true then u else m) = m := by
  obtain ⟨e1, e2, e3⟩ := du_keep h3
  rw [if_neg h1, if_neg e2, if_neg e1, if_neg h1, if_neg h2, h3, if_neg (by decide)]

section
variable {ended : Bool} {ls : List Str} {res : Res} {Q : Flow → Shared → Prop} {h₀ h' : Heap} {L : Addr} {m₀ m' : Str → Option Value} {nm ll I rl D : Addr} {ol oI : Obj} {rest tl : List (Addr × Obj)} {i tk' : Nat} {s : Shared} {line : Str} {at_ : Int} {t' : Tok} {vls rvs : List Value} {nms : List (Str × Int × Str)} {rs : List Str} {c rc : Nat} {x : Addr × Obj}
theorem ne_cons' {D l : Addr} {o : Obj} {tl rest : List (Addr × Obj)} (h : @Ne Nat D l) (hA : ∀ q ∈ tl ++ rest, q.1 ≠ l) : ∀ q ∈ ((D, o) :: tl) ++ rest, q.1 ≠ l := fun q hq => by
  rcases List.mem_cons.mp hq with rfl | hq
  · exact h
  · exact hA q hq
theorem DuPost.good {k d : Str} {n : Int} {t1 t2 t3 : Tok}
    (F : Fr h₀ L h' m') (N : News h₀ L h' (x :: (D, { cls := .type "tuple", data := .seq #[.str k t1, .int n t2, .str d t3] }) :: (I, oI) :: (nm, listOf (vls.toArray.push (.ref D)) c) :: (ll, ol) :: (tl ++ rest)))
    (hl : ls[i]? = some line) (g : GoOn ended ls i) (hc : (line == Str.ofString "c") = false) (hd : dueLine line = .ok (k, n, d))
    (hS : DatAll tl vls (nms.map datName)) (hv : vls.length ≤ i) (hI : DuI ended ls res i at_ nms none) (hA : ∀ q ∈ tl ++ rest, q.1 ≠ nm) (hAI : ∀ q ∈ tl ++ rest, q.1 ≠ I) (hD1 : @Ne Nat D nm) (hD2 : @Ne Nat D I)
    (h1 : m' (Str.ofString "at") = some (.int (at_ + line.length + 1) t')) (h2 : m' (Str.ofString "remark") = some .none) (h3 : ∀ z, z ≠ Str.ofString "at" → z ≠ Str.ofString "remark" → dTemps.contains z = false → m' z = m₀ z) :
    DuPost ended ls res Q h₀ L m₀ nm ll I ol oI rest i s .next { s with heap := h', toks := tk' } := by
  refine ⟨h', tk', m', _, t', vls ++ [.ref D], nms ++ [(k, n, d)], c, (D, { cls := .type "tuple", data := .seq #[.str k t1, .int n t2, .str d t3] }) :: tl, rfl, F, h1, h3, dat_snoc hS, ?_, ne_cons' hD1 hA, ne_cons' hD2 hAI, .inl ⟨h2, fun p hp => ?_, ?_⟩⟩
  · rw [List.length_append, List.length_singleton]; omega
  · rw [List.push_toArray] at N
    refine N p ?_
    simp only [List.cons_append, List.mem_cons] at hp ⊢
    rcases hp with h | h | h | h | h <;> simp [h]
  · exact (du_good hl g hc hd).symm.trans hI
theorem DuPost.cc {cl0 : Nat}
    (F : Fr h₀ L h' m') (N : News h₀ L h' ((rl, listOf #[] cl0) :: (I, oI) :: (nm, listOf vls.toArray c) :: (ll, ol) :: (tl ++ rest)))
    (hl : ls[i]? = some line) (g : GoOn ended ls i) (hc : (line == Str.ofString "c") = true)
    (hS : DatAll tl vls (nms.map datName)) (hv : vls.length ≤ i) (hI : DuI ended ls res i at_ nms none) (hA : ∀ q ∈ tl ++ rest, q.1 ≠ nm) (hAI : ∀ q ∈ tl ++ rest, q.1 ≠ I) (e1 : @Ne Nat rl I) (e2 : @Ne Nat nm rl) (e3 : @Ne Nat ll rl) (e4 : ∀ q ∈ tl ++ rest, q.1 ≠ rl)
    (h1 : m' (Str.ofString "at") = some (.int (at_ + line.length + 1) t')) (h2 : m' (Str.ofString "remark") = some (.ref rl)) (h3 : ∀ z, z ≠ Str.ofString "at" → z ≠ Str.ofString "remark" → dTemps.contains z = false → m' z = m₀ z) :
    DuPost ended ls res Q h₀ L m₀ nm ll I ol oI rest i s .next { s with heap := h', toks := tk' } := by
  refine ⟨h', tk', m', _, t', vls, nms, c, tl, rfl, F, h1, h3, hS, by omega, hA, hAI, .inr ⟨rl, [], [], cl0, h2, .nil, Nat.zero_le _, e1, e2, e3, e4, fun p hp => ?_, ?_⟩⟩
  · refine N p ?_
    simp only [List.mem_cons] at hp ⊢
    rcases hp with h | h | h | h | h <;> simp [h]
  · exact (du_c hl g hc).symm.trans hI
theorem DuPost.rem {tz : Tok}
    (F : Fr h₀ L h' m') (N : News h₀ L h' ((I, oI) :: (nm, listOf vls.toArray c) :: (ll, ol) :: (rl, listOf (rvs.toArray.push (.str line tz)) rc) :: (tl ++ rest)))
    (hl : ls[i]? = some line) (g : GoOn ended ls i) (hR : StrsAre rvs rs) (hr : rs.length ≤ i)
    (hS : DatAll tl vls (nms.map datName)) (hv : vls.length ≤ i) (hI : DuI ended ls res i at_ nms (some rs)) (hA : ∀ q ∈ tl ++ rest, q.1 ≠ nm) (hAI : ∀ q ∈ tl ++ rest, q.1 ≠ I) (e1 : @Ne Nat rl I) (e2 : @Ne Nat nm rl) (e3 : @Ne Nat ll rl) (e4 : ∀ q ∈ tl ++ rest, q.1 ≠ rl)
    (h1 : m' (Str.ofString "at") = some (.int (at_ + line.length + 1) t')) (h2 : m' (Str.ofString "remark") = some (.ref rl)) (h3 : ∀ z, z ≠ Str.ofString "at" → z ≠ Str.ofString "remark" → dTemps.contains z = false → m' z = m₀ z) :
    DuPost ended ls res Q h₀ L m₀ nm ll I ol oI rest i s .next { s with heap := h', toks := tk' } := by
  refine ⟨h', tk', m', _, t', vls, nms, c, tl, rfl, F, h1, h3, hS, by omega, hA, hAI, .inr ⟨rl, rvs ++ [.str line tz], rs ++ [line], rc, h2, StrsAre.append' hR (.cons _ _ .nil), ?_, e1, e2, e3, e4, fun p hp => ?_, ?_⟩⟩
  · rw [List.length_append, List.length_singleton]; omega
  · rw [List.push_toArray] at N
    exact N p hp
  · exact (du_rem hl g).symm.trans hI
theorem du_res_bad {k d : Str} (hI : DuI ended ls res i at_ nms none) (hl : ls[i]? = some line) (g : GoOn ended ls i) (hc : (line == Str.ofString "c") = false) (hd : dueLine line = .error (k, d)) : res = .err k at_ d := Eq.trans (Eq.symm hI) (du_bad hl g hc hd)
theorem du_res_cut {rem : Option (List Str)} (hI : DuI ended ls res i at_ nms rem) (hl : ls[i]? = some line) (h1 : ((i : Nat) : Int) = (ls.length : Int) - 1) (h2 : ended = false) (h3 : (line != Str.ofString "") = true) : res = .err (Str.ofString "cut_off") (at_ + line.length) (Str.ofString "") := Eq.trans (Eq.symm hI) (du_cut hl h1 h2 h3)
theorem du_res_brkN (hI : DuI ended ls res i at_ nms none) (hl : ls[i]? = some line) (h1 : ((i : Nat) : Int) = (ls.length : Int) - 1) (h2 : ended = false) (h3 : (line != Str.ofString "") = false) : res = .ok nms [] := Eq.trans (Eq.symm hI) (du_brk hl h1 h2 h3)
theorem du_res_brkS (hI : DuI ended ls res i at_ nms (some rs)) (hl : ls[i]? = some line) (h1 : ((i : Nat) : Int) = (ls.length : Int) - 1) (h2 : ended = false) (h3 : (line != Str.ofString "") = false) : res = .ok nms rs := Eq.trans (Eq.symm hI) (du_brk hl h1 h2 h3)
theorem du_res_brk0 (hI : DuI ended ls res i at_ nms (some rs)) (hl : ls[i]? = some line) (h1 : ((i : Nat) : Int) = (ls.length : Int) - 1) (h2 : ended = false) (h3 : (line != Str.ofString "") = false) (h4 : rs = []) : res = .ok nms [] := by
  subst h4
  exact du_res_brkS hI hl h1 h2 h3
theorem du_res_0 (h : res = .ok nms rs) (h4 : rs = []) : res = .ok nms [] := by
  subst h4
  exact h
end
theorem nwB {h₀ h : Heap} {L : Addr} {x d y1 y2 l : Addr × Obj} {tl rest : List (Addr × Obj)} (N : News h₀ L h (x :: d :: y1 :: y2 :: l :: (tl ++ rest))) : News h₀ L h ([d] ++ l :: rest) := fun p hp => N p (by
  simp only [List.cons_append, List.nil_append, List.mem_cons, List.mem_append] at hp ⊢
  rcases hp with h | h | h <;> simp [h])
theorem nwC {h₀ h : Heap} {L : Addr} {d y1 y2 l : Addr × Obj} {tl rest : List (Addr × Obj)} (N : News h₀ L h (d :: y1 :: y2 :: l :: (tl ++ rest))) : News h₀ L h ([d] ++ l :: rest) := fun p hp => N p (by
  simp only [List.cons_append, List.nil_append, List.mem_cons, List.mem_append] at hp ⊢
  rcases hp with h | h | h <;> simp [h])
theorem nwC2 {h₀ h : Heap} {L : Addr} {d y1 y2 l r : Addr × Obj} {tl rest : List (Addr × Obj)} (N : News h₀ L h (d :: y1 :: y2 :: l :: r :: (tl ++ rest))) : News h₀ L h ([d] ++ l :: rest) := fun p hp => N p (by
  simp only [List.cons_append, List.nil_append, List.mem_cons, List.mem_append] at hp ⊢
  rcases hp with h | h | h <;> simp [h])
theorem nwN {h₀ h : Heap} {L : Addr} {d b e a y1 y2 l : Addr × Obj} {tl rest : List (Addr × Obj)} (N : News h₀ L h (d :: b :: e :: a :: y1 :: y2 :: l :: (tl ++ rest))) : News h₀ L h ((d :: b :: a :: tl) ++ l :: rest) := fun p hp => N p (by
  simp only [List.cons_append, List.nil_append, List.mem_cons, List.mem_append] at hp ⊢
  rcases hp with h | h | h | h | h | h <;> simp [h])
theorem nw0 {h₀ h : Heap} {L : Addr} {d b e a y1 y2 l r : Addr × Obj} {tl rest : List (Addr × Obj)} (N : News h₀ L h (d :: b :: e :: a :: y1 :: y2 :: l :: r :: (tl ++ rest))) : News h₀ L h ((d :: b :: a :: tl) ++ l :: rest) := fun p hp => N p (by
  simp only [List.cons_append, List.nil_append, List.mem_cons, List.mem_append] at hp ⊢
  rcases hp with h | h | h | h | h | h <;> simp [h])
theorem nwS {h₀ h : Heap} {L : Addr} {d b a y1 y2 l r : Addr × Obj} {tl rest : List (Addr × Obj)} (N : News h₀ L h (d :: b :: a :: y1 :: y2 :: l :: r :: (tl ++ rest))) : News h₀ L h ((d :: b :: a :: tl) ++ l :: rest) := fun p hp => N p (by
  simp only [List.cons_append, List.nil_append, List.mem_cons, List.mem_append] at hp ⊢
  rcases hp with h | h | h | h | h | h <;> simp [h])
theorem nwDN {h₀ h : Heap} {L : Addr} {d b e a y2 l : Addr × Obj} {tl rest : List (Addr × Obj)} (N : News h₀ L h (d :: b :: e :: a :: y2 :: l :: (tl ++ rest))) : News h₀ L h ((d :: b :: a :: tl) ++ l :: rest) := fun p hp => N p (by
  simp only [List.cons_append, List.nil_append, List.mem_cons, List.mem_append] at hp ⊢
  rcases hp with h | h | h | h | h | h <;> simp [h])
theorem nwD0 {h₀ h : Heap} {L : Addr} {d b e a y2 l r : Addr × Obj} {tl rest : List (Addr × Obj)} (N : News h₀ L h (d :: b :: e :: a :: y2 :: l :: r :: (tl ++ rest))) : News h₀ L h ((d :: b :: a :: tl) ++ l :: rest) := fun p hp => N p (by
  simp only [List.cons_append, List.nil_append, List.mem_cons, List.mem_append] at hp ⊢
  rcases hp with h | h | h | h | h | h <;> simp [h])
theorem nwDS {h₀ h : Heap} {L : Addr} {d b a y2 l r : Addr × Obj} {tl rest : List (Addr × Obj)} (N : News h₀ L h (d :: b :: a :: y2 :: l :: r :: (tl ++ rest))) : News h₀ L h ((d :: b :: a :: tl) ++ l :: rest) := fun p hp => N p (by
  simp only [List.cons_append, List.nil_append, List.mem_cons, List.mem_append] at hp ⊢
  rcases hp with h | h | h | h | h | h <;> simp [h])
end Mine
end

section
open PySem PySem.W PySem.Spec PySem.Calls PyProof.Rows
namespace Mine
theorem w_off_C11 : True := by
  w_top off
  exact trivial
set_option maxRecDepth 100000
set_option maxHeartbeats 4000000

theorem item_line {prog : Program} {w : World} {A : Around} {E : Value → Shared → Prop} {s : Shared} {value slice : Expr} {a : Addr} {l : List Value} {ys : List Str} {i : Nat} {u : Tok} {y : Str} {Q : Value → Shared → Prop} (hl : s.heap.IsList a l.toArray) (hi : StrsAre l ys) (hy : ys[i]? = some y) (hi20 : i < 20) (hlen : ∀ x ∈ ys, x.length ≤ 1000) (h : ∀ t', y.length ≤ 1000 → Q (.str y t') s)
    (hs : subscripted slice false (.ref a) (.int (i : Nat) u) = operate [.ref a, .int (i : Nat) u] (getItem (.ref a) (.int (i : Nat) u)) := by with_unfolding_all rfl) (hg : ∀ r, letTemporaryGo value (.ref a) r = pure () := by intro _; with_unfolding_all rfl) :
    wpAny (model prog w) A (subscriptTail value slice (.ref a) (.int (i : Nat) u)) Q E s := by
  obtain ⟨t, ht⟩ := hi.at hy
  exact item_listL hl (Int.natCast_nonneg _) (by omega) (by rw [Int.toNat_natCast]; exact ht) (h t (hlen _ (List.mem_of_getElem? hy))) hs hg
theorem truthy_rem {prog : Program} {w : World} {A : Around} {E : Value → Shared → Prop} {s : Shared} {l : Addr} {vs : List Value} {rs : List Str} {Q : Bool → Shared → Prop} (hl : s.heap.IsList l vs.toArray) (hi : StrsAre vs rs) (hn : vs.length ≤ 20)
    (h1 : rs = [] → Q false { s with toks := s.toks + 1 + 1 }) (h2 : rs ≠ [] → Q true { s with toks := s.toks + 1 + 1 }) : wpAny (model prog w) A (truthy (.ref l)) Q E s := by
  refine wpAny_truthy_list hl (by simp only [List.size_toArray]; omega) ?_
  cases hi with
  | nil => exact h1 rfl
  | cons _ _ _ => exact h2 (by simp)
theorem DuPost.ret {ended : Bool} {ls : List Str} {res : Res} {Q : Flow → Shared → Prop} {h₀ : Heap} {L : Addr} {m₀ : Str → Option Value} {nm ll I : Addr} {ol oI : Obj} {rest : List (Addr × Obj)} {i : Nat} {s s₃ : Shared} {v : Value} (h : Q (.ret v) s₃) : DuPost ended ls res Q h₀ L m₀ nm ll I ol oI rest i s (.ret v) s₃ := h
theorem DuPost.brk {ended : Bool} {ls : List Str} {res : Res} {Q : Flow → Shared → Prop} {h₀ : Heap} {L : Addr} {m₀ : Str → Option Value} {nm ll I : Addr} {ol oI : Obj} {rest : List (Addr × Obj)} {i : Nat} {s s₃ : Shared} (h : Q .next s₃) : DuPost ended ls res Q h₀ L m₀ nm ll I ol oI rest i s .brk s₃ := h
theorem line_len {ls : List Str} {i : Nat} {l : Str} (h : ∀ x ∈ ls, x.length ≤ 1000) (hl : ls[i]? = some l) : l.length ≤ 1000 := h _ (List.mem_of_getElem? hl)
noncomputable def DuArgs (ended : Bool) (ls : List Str) (start : Int) : Prop := True
noncomputable def DuMid (ended : Bool) (ls : List Str) (i : Nat) (s s₂ : Shared) : Prop := GoOn ended ls i ∧ ∃ tk, s₂ = { s with toks := tk }
theorem du_cut2 {prog : Program} {w : World} {A : Around} {E : Value → Shared → Prop} {s : Shared} {env : Env} {a b : Stmt} {sts : List Stmt} {Q : Flow → Shared → Prop} {ended : Bool} {ls : List Str} {start : Int} {i : Nat} {line : Str} (_ : DuArgs ended ls start) (_ : ls[i]? = some line)
    (h1 : wpAny (model prog w) A (exec a env) (fun f s₁ => match f with
      | .next => wpAny (model prog w) A (exec b env) (fun f' s₂ => match f' with | .next => DuMid ended ls i s s₂ | f' => Q f' s₂) E s₁
      | f => Q f s₁) E s)
    (h2 : ∀ tk, GoOn ended ls i → wpAny (model prog w) A (execs sts env) Q E { s with toks := tk }) : wpAny (model prog w) A (execs (a :: b :: sts) env) Q E s :=
  exec_cut2 (DuMid ended ls i s) h1 (by
    rintro s₂ ⟨g, tk, rfl⟩
    exact h2 tk g)
noncomputable def DuHold (p : Prop) : Prop := p
theorem DuHold.get {p : Prop} (h : DuHold p) : p := h
theorem due_loop' {prog : Program} {w : World} {A : Around} {E : Value → Shared → Prop} {Q : Flow → Shared → Prop} {s : Shared} {env : Env} {h₀ : Heap} {body : List Stmt} {r : Addr} {b₀ : Int} {t₀ u₀ v₀ ta : Tok} {m₀ : Str → Option Value} {nm ll : Addr} {ol : Obj} {c0 : Nat} {rest : List (Addr × Obj)} {ended : Bool} {ls : List Str} {start : Int} (_ : DuArgs ended ls start)
    (hr : IsRange s.heap r 0 b₀ 1 t₀ u₀ v₀) (hb : b₀ = (ls.length : Int)) (hn1 : ls.length ≤ 20)
    (F : Fr h₀ env.locals s.heap m₀) (N : News h₀ env.locals s.heap ((nm, listOf ([] : List Value).toArray c0) :: (ll, ol) :: rest)) (hm1 : m₀ (Str.ofString "at") = some (.int start ta)) (hm2 : m₀ (Str.ofString "remark") = some .none)
    (hr1 : ∀ q ∈ rest, q.1 ≠ nm) (hll : @Ne Nat ll nm)
    (turnN : ∀ i (line : Str) t at_ ta vls nms c tl I oI h tk (u : Str → Option Value), i < 20 → vls.length ≤ 20 → ls[i]? = some line → DatAll tl vls (nms.map datName) → vls.length ≤ i → DuI ended ls (dueGo ended ls start [] none) i at_ nms none → (∀ q ∈ tl ++ rest, q.1 ≠ nm) → (∀ q ∈ tl ++ rest, q.1 ≠ I) → @Ne Nat nm I → @Ne Nat ll I → oI.cls = .type "range_iterator" →
      Fr h₀ env.locals h (fun y => if y = Str.ofString "turn" then some (.int (i : Nat) t) else if y = Str.ofString "at" then some (.int at_ ta) else if y = Str.ofString "remark" then some .none else if dTemps.contains y = true then u y else m₀ y) →
      News h₀ env.locals h ((I, oI) :: (nm, listOf vls.toArray c) :: (ll, ol) :: (tl ++ rest)) →
      wpAny (model prog w) A (execs body env) (DuPost ended ls (dueGo ended ls start [] none) Q h₀ env.locals m₀ nm ll I ol oI rest i s) E { s with heap := h, toks := tk })
    (turnS : ∀ i (line : Str) t at_ ta vls nms c rl rvs rs rc tl I oI h tk (u : Str → Option Value), i < 20 → rvs.length ≤ 20 → ls[i]? = some line → DatAll tl vls (nms.map datName) → vls.length ≤ i → StrsAre rvs rs → rs.length ≤ i → DuI ended ls (dueGo ended ls start [] none) i at_ nms (some rs) → (∀ q ∈ tl ++ rest, q.1 ≠ nm) → (∀ q ∈ tl ++ rest, q.1 ≠ I) → @Ne Nat nm I → @Ne Nat ll I → @Ne Nat rl I → @Ne Nat nm rl → @Ne Nat ll rl → (∀ q ∈ tl ++ rest, q.1 ≠ rl) → oI.cls = .type "range_iterator" →
      Fr h₀ env.locals h (fun y => if y = Str.ofString "turn" then some (.int (i : Nat) t) else if y = Str.ofString "at" then some (.int at_ ta) else if y = Str.ofString "remark" then some (.ref rl) else if dTemps.contains y = true then u y else m₀ y) →
      News h₀ env.locals h ((I, oI) :: (nm, listOf vls.toArray c) :: (ll, ol) :: (rl, listOf rvs.toArray rc) :: (tl ++ rest)) →
      wpAny (model prog w) A (execs body env) (DuPost ended ls (dueGo ended ls start [] none) Q h₀ env.locals m₀ nm ll I ol oI rest i s) E { s with heap := h, toks := tk })
    (doneN : ∀ at_ ta vls nms c tl h tk (u : Str → Option Value), vls.length ≤ 20 → DatAll tl vls (nms.map datName) → dueGo ended ls start [] none = .ok nms [] →
      Fr h₀ env.locals h (fun y => if y = Str.ofString "at" then some (.int at_ ta) else if y = Str.ofString "remark" then some .none else if dTemps.contains y = true then u y else m₀ y) → News h₀ env.locals h ((nm, listOf vls.toArray c) :: (ll, ol) :: (tl ++ rest)) → Q .next { s with heap := h, toks := tk })
    (doneS : ∀ at_ ta vls nms c rl rvs rs rc tl h tk (u : Str → Option Value), vls.length ≤ 20 → rvs.length ≤ 20 → DatAll tl vls (nms.map datName) → StrsAre rvs rs → dueGo ended ls start [] none = .ok nms rs →
      Fr h₀ env.locals h (fun y => if y = Str.ofString "at" then some (.int at_ ta) else if y = Str.ofString "remark" then some (.ref rl) else if dTemps.contains y = true then u y else m₀ y) → News h₀ env.locals h ((nm, listOf vls.toArray c) :: (ll, ol) :: (rl, listOf rvs.toArray rc) :: (tl ++ rest)) → Q .next { s with heap := h, toks := tk })
    (hh : A.handled = none) :
    wpAny (model prog w) A (pyIter (.ref r)) (fun it s₂ => LoopAtV prog w A h₀ env (Str.ofString "turn") body Q E it s₂) E s :=
  due_loop ended ls start hr hb hn1 F N hm1 hm2 hr1 hll turnN turnS doneN doneS hh


theorem sub_news {h₀ h : Heap} {L : Addr} {l l' : List (Addr × Obj)} (N : News h₀ L h l) (hs : ∀ p ∈ l', p ∈ l) : News h₀ L h l' := fun p hp => N p (hs p hp)

theorem du_ok {w : World} {dp un : Nat} {gd : Option (List Code)} {cn : Str} {cs : Scope} {a : Addr} {ccd : Value} {cl : List (Str × Addr)} {outer : List Env} {A₀ : Around} {base h₀ : Heap} {L : Addr} {m : Str → Option Value} {s : Shared} {Q E : Value → Shared → Prop} {mean : ExcName → Option Value} {mg mb : Str → Option Value}
    {ll : Addr} {lv : List Value} {nl : Nat} {ls : List Str} {ended : Bool} {start : Int} {ts : Tok} {rest : List (Addr × Obj)}
    (B : Below A₀ base outer h₀) (F : Fr h₀ L s.heap m) (X : (hd.heap_39 w.params).In h₀) (N : News h₀ L s.heap ((ll, listOf lv.toArray nl) :: rest))
    (T : Top hd.view_39 (looseW hd.view_39 LS) mean mg mb h₀) (hk : cs.kind = .function)
    (hS : StrsAre lv ls) (hn1 : ls.length ≤ 20) (hlen : ∀ l ∈ ls, l.length ≤ 1000) (hll : ∀ p ∈ rest, p.1 ≠ ll)
    (hdp : dp + 40 < recursionLimit) (hu : un + 400 < cLine)
    (ret : ∀ (v : Value) (tl : List (Addr × Obj)) (h' : Heap) (tk' : Nat), DatIn tl v (resDat (dueGo ended ls start [] none)) → Fr h₀ L h' m → News h₀ L h' (tl ++ (ll, listOf lv.toArray nl) :: rest) → Q v { s with heap := h', toks := tk' }) :
    wpAny (model Challenge.rw_on0091_01.row.prog w) (ktrTop dp un gd cn cs L a ccd cl outer) (call (.ref 157) [.ref ll, .bool ended, .int start ts]) Q E s := by
  k_with_none
  (k_with "w k_ne" => (refine neN ?_; (try dsimp only); with_reducible first | assumption | exact Ne.symm (by assumption) | exact Nat.ne_of_gt (by first | assumption | exact cj1 (by assumption) | exact ej2 (by assumption) | exact cj2 (by assumption) | exact ej3 (by assumption) | exact cj3 (by assumption) | exact ej4 (by assumption) | exact cj4 (by assumption) | exact ej5 (by assumption) | exact cj5 (by assumption) | exact ej6 (by assumption) | exact cj6 (by assumption) | exact ej7 (by assumption) | exact cj7 (by assumption) | exact ej8 (by assumption) | exact cj8 (by assumption) | exact ej9 (by assumption) | exact cj9 (by assumption) | exact ej10 (by assumption) | exact cj10 (by assumption) | exact ej11 (by assumption)) | exact Nat.ne_of_lt (by first | assumption | exact cj1 (by assumption) | exact ej2 (by assumption) | exact cj2 (by assumption) | exact ej3 (by assumption) | exact cj3 (by assumption) | exact ej4 (by assumption) | exact cj4 (by assumption) | exact ej5 (by assumption) | exact cj5 (by assumption) | exact ej6 (by assumption) | exact cj6 (by assumption) | exact ej7 (by assumption) | exact cj7 (by assumption) | exact ej8 (by assumption) | exact cj8 (by assumption) | exact ej9 (by assumption) | exact cj9 (by assumption) | exact ej10 (by assumption) | exact cj10 (by assumption) | exact ej11 (by assumption))))
  (k_with "w lt" => ((try dsimp only); with_reducible first | assumption | exact cj1 (by assumption) | exact ej2 (by assumption) | exact cj2 (by assumption) | exact ej3 (by assumption) | exact cj3 (by assumption) | exact ej4 (by assumption) | exact cj4 (by assumption) | exact ej5 (by assumption) | exact cj5 (by assumption) | exact ej6 (by assumption) | exact cj6 (by assumption) | exact ej7 (by assumption) | exact cj7 (by assumption) | exact ej8 (by assumption) | exact cj8 (by assumption) | exact ej9 (by assumption) | exact cj9 (by assumption) | exact ej10 (by assumption) | exact cj10 (by assumption) | exact ej11 (by assumption)))
  (k_with "w room" => first | exact Nat.le_of_ble_eq_true rfl | exact room0 (by assumption) rfl | exact room1 (by assumption) rfl | exact room2 (by assumption) rfl)
  (k_with "w size" => first | exact Nat.le_of_ble_eq_true rfl | exact Nat.le_trans (by with_reducible assumption) (Nat.le_of_ble_eq_true rfl))
  (k_with "w k_all" => with_reducible assumption)
  (k_with "w k_all" => exact allLt_ne (by first | with_reducible assumption | tbn_find))
  (k_with "w exec For Name Call cons nil" => (k_here; (rename Fr _ _ _ _ => lFww); (with_unfolding_all refine For_invVF lFww (by exact rfl) (by exact rfl) ?_; k_whole)))
  (k_with "w pyIter ref" => ((with_reducible show wpAny _ _ (pyIter (Value.ref _)) (fun it s₂ => LoopAtV _ _ _ _ _ _ _ _ _ it s₂) _ _); k_here; k_dflt (refine due_loop' (by with_reducible assumption) (by assumption) (by simp) (by assumption) (by k_asm) (by k_asm) (by with_unfolding_all rfl) (by with_unfolding_all rfl) (by k_all) (by k_ne) ?_ ?_ ?_ ?_ (by exact rfl))))
  (k_with "w subscriptTail Name Name ref int" => (k_here; k_dflt (refine item_line (by is_list) (by with_reducible assumption) (by with_reducible assumption) (by with_reducible assumption) (by with_reducible assumption) ?_; k_whole); intro tzww hz9ww))
  (k_with "w call ref" => (k_here; (with_reducible show wpAny _ _ (call (Value.ref 150) _) _ _ _); k_dflt ((refine ld_ok (by k_asm) (by k_asm) (by k_asm) (by k_asm) (by k_asm) (by first | exact rfl | assumption) (by with_reducible assumption) (by ktr_room) (by ktr_units) ?_ ?_) <;> (first | (intro Dww kww dww t1ww t2ww t3ww hww tkww hdww hkww Fww Nww l1ww; (replace hkww : _ = false := hkww); (try simp only [AllLt] at l1ww)) | (intro Dww kww dww nww t1ww t2ww t3ww hww tkww hdww hkww Fww Nww l1ww; (replace hkww : _ = true := hkww); (try simp only [AllLt] at l1ww))))))
  (k_with "w call type:tuple" => ((with_reducible show wpAny _ _ (call (Value.type _) [Value.ref _]) _ _ _); (rename Fr _ _ _ _ => Fww); (rename News _ _ _ _ => Nww); (with_unfolding_all refine tuple_ofL Fww Nww (News.isList Nww (by repeat' (first | exact List.Mem.head _ | apply List.Mem.tail))) ?_); intro _ _ _ _ _))
  (k_with "w truthy ref" => (k_here; (with_reducible show wpAny _ _ (truthy (Value.ref _)) _ _ _); k_dflt (refine truthy_rem (by is_list) (by with_reducible assumption) (by with_reducible assumption) ?_ ?_)))
  (k_with "w DuPost" => (refine DuPost.ret ?_))
  (k_with "w DuPost" => (refine DuPost.brk ?_))
  (k_with "w execs cons" => ((with_reducible show wpAny _ _ (execs [Stmt.If _ _ _ _, Stmt.If _ _ _ _, Stmt.If _ _ _ _, _] _) _ _ _); refine DuHold.get ?_))
  have hD : DuArgs ended ls start := True.intro
  have hvl : lv.length = ls.length := hS.length
  revert X
  k_fill
  intro X
  refine wpAny_call ?_
  k_dflt cell_enter
  k_steps
  all_goals (try dsimp only)
  · unfold DuHold
    refine du_cut2 hD (by with_reducible assumption) ?_ ?_
    · k_steps
      all_goals (try dsimp only)
      all_goals (try (first | contradiction | (exfalso; omega)))
      all_goals first
        | exact ⟨goOn1 (by with_reducible assumption), _, rfl⟩
        | exact ⟨goOn2 (by with_reducible assumption) (by with_reducible assumption), _, rfl⟩
        | ((refine' ret _ [_] _ _ (du_err_dat (du_res_cut ?hI ?hl ?g1 ?g2 ?g3)) ?F (nwC ?N); (case N => with_reducible assumption); (case hl => with_reducible assumption); (case hI => with_reducible assumption); (case g1 => with_reducible assumption); (case g2 => with_reducible assumption); (case g3 => with_reducible assumption); (case F => with_reducible assumption)))
        | ((refine' ret _ (_ :: _ :: _ :: _) _ _ (du_ok_dat (c := 0) ?hh ?hS ?hR) ?F (nwN ?N); (case N => with_reducible assumption); (case hR => first | exact StrsAre.nil | with_reducible assumption); (case hS => with_reducible assumption); (case F => with_reducible assumption); (case hh => exact (du_res_brkN (by with_reducible assumption) (by with_reducible assumption) (by with_reducible assumption) (by with_reducible assumption) (by with_reducible assumption)))))
    · intro tk g
      dsimp only
      k_steps
      all_goals (try dsimp only)
      · ((refine' DuPost.cc ?F ?N ?hl ?g ?hc ?hS ?hv ?hI ?hA ?hAI ?e1 ?e2 ?e3 ?e4 ?h1 ?h2 ?h3; (case N => assumption); (case F => assumption); (case hl => with_reducible assumption); (case g => (first | with_reducible assumption | exact goOn1 (by with_reducible assumption) | exact goOn2 (by with_reducible assumption) (by with_reducible assumption))); (case hc => with_reducible assumption); (case hS => with_reducible assumption); (case hI => with_reducible assumption); (case hv => with_reducible assumption); (case hA => with_reducible assumption); (case hAI => with_reducible assumption); (case e1 => k_ne); (case e2 => k_ne); (case e3 => k_ne); (case e4 => k_all); (case h1 => rfl); (case h2 => rfl); (case h3 => exact fun z a b c => du_k2 a b c)))
      · ((refine' ret _ [_] _ _ (du_err_dat (du_res_bad ?hI ?hl ?g ?hc ?hd)) ?F (nwB ?N); (case N => with_reducible assumption); (case hd => with_reducible assumption); (case hl => with_reducible assumption); (case hI => with_reducible assumption); (case g => (first | with_reducible assumption | exact goOn1 (by with_reducible assumption) | exact goOn2 (by with_reducible assumption) (by with_reducible assumption))); (case hc => with_reducible assumption); (case F => with_reducible assumption)))
      · ((refine' DuPost.good ?F ?N ?hl ?g ?hc ?hd ?hS ?hv ?hI ?hA ?hAI ?e1 ?e2 ?h1 ?h2 ?h3; (case N => assumption); (case F => assumption); (case hd => with_reducible assumption); (case hl => with_reducible assumption); (case g => (first | with_reducible assumption | exact goOn1 (by with_reducible assumption) | exact goOn2 (by with_reducible assumption) (by with_reducible assumption))); (case hc => with_reducible assumption); (case hS => with_reducible assumption); (case hI => with_reducible assumption); (case hv => with_reducible assumption); (case hA => with_reducible assumption); (case hAI => with_reducible assumption); (case e1 => k_ne); (case e2 => k_ne); (case h1 => rfl); (case h2 => rfl); (case h3 => exact fun z a b c => du_k1 a b c)))
  · unfold DuHold
    refine du_cut2 hD (by with_reducible assumption) ?_ ?_
    · k_steps
      all_goals (try dsimp only)
      all_goals (try (first | contradiction | (exfalso; omega)))
      all_goals first
        | exact ⟨goOn1 (by with_reducible assumption), _, rfl⟩
        | exact ⟨goOn2 (by with_reducible assumption) (by with_reducible assumption), _, rfl⟩
        | ((refine' ret _ [_] _ _ (du_err_dat (du_res_cut ?hI ?hl ?g1 ?g2 ?g3)) ?F (nwC2 ?N); (case N => with_reducible assumption); (case hl => with_reducible assumption); (case hI => with_reducible assumption); (case g1 => with_reducible assumption); (case g2 => with_reducible assumption); (case g3 => with_reducible assumption); (case F => with_reducible assumption)))
        | ((refine' ret _ (_ :: _ :: _ :: _) _ _ (du_ok_dat (c := 0) ?hh ?hS ?hR) ?F (nw0 ?N); (case N => with_reducible assumption); (case hR => first | exact StrsAre.nil | with_reducible assumption); (case hS => with_reducible assumption); (case F => with_reducible assumption); (case hh => exact (du_res_brk0 (by with_reducible assumption) (by with_reducible assumption) (by with_reducible assumption) (by with_reducible assumption) (by with_reducible assumption) (by with_reducible assumption)))))
        | ((refine' ret _ (_ :: _ :: _ :: _) _ _ (du_ok_dat (c := 0) ?hh ?hS ?hR) ?F (nwS ?N); (case N => with_reducible assumption); (case hR => first | exact StrsAre.nil | with_reducible assumption); (case hS => with_reducible assumption); (case F => with_reducible assumption); (case hh => exact (du_res_brkS (by with_reducible assumption) (by with_reducible assumption) (by with_reducible assumption) (by with_reducible assumption) (by with_reducible assumption)))))
    · intro tk g
      dsimp only
      k_steps
      all_goals (try dsimp only)
      · ((refine' DuPost.rem ?F ?N ?hl ?g ?hR ?hr ?hS ?hv ?hI ?hA ?hAI ?e1 ?e2 ?e3 ?e4 ?h1 ?h2 ?h3; (case N => assumption); (case F => assumption); (case hl => with_reducible assumption); (case g => (first | with_reducible assumption | exact goOn1 (by with_reducible assumption) | exact goOn2 (by with_reducible assumption) (by with_reducible assumption))); (case hR => with_reducible assumption); (case hS => with_reducible assumption); (case hI => with_reducible assumption); (case hr => with_reducible assumption); (case hv => with_reducible assumption); (case hA => with_reducible assumption); (case hAI => with_reducible assumption); (case e1 => with_reducible assumption); (case e2 => with_reducible assumption); (case e3 => with_reducible assumption); (case e4 => with_reducible assumption); (case h1 => rfl); (case h2 => rfl); (case h3 => exact fun z a b c => du_k3 a b c)))
  · ((refine' ret _ (_ :: _ :: _ :: _) _ _ (du_ok_dat (c := 0) ?hh ?hS ?hR) ?F (nwDN ?N); (case N => with_reducible assumption); (case hR => first | exact StrsAre.nil | with_reducible assumption); (case hS => with_reducible assumption); (case F => with_reducible assumption); (case hh => exact (by with_reducible assumption))))
  · ((refine' ret _ (_ :: _ :: _ :: _) _ _ (du_ok_dat (c := 0) ?hh ?hS ?hR) ?F (nwD0 ?N); (case N => with_reducible assumption); (case hR => first | exact StrsAre.nil | with_reducible assumption); (case hS => with_reducible assumption); (case F => with_reducible assumption); (case hh => exact (du_res_0 (by with_reducible assumption) (by with_reducible assumption)))))
  · ((refine' ret _ (_ :: _ :: _ :: _) _ _ (du_ok_dat (c := 0) ?hh ?hS ?hR) ?F (nwDS ?N); (case N => with_reducible assumption); (case hR => first | exact StrsAre.nil | with_reducible assumption); (case hS => with_reducible assumption); (case F => with_reducible assumption); (case hh => exact (by with_reducible assumption))))
end Mine
end

section
open PySem PySem.W PySem.Spec PySem.Calls PyProof.Rows
namespace Mine
theorem w_off_C12a : True := by
  w_top off
  exact trivial
set_option maxRecDepth 100000
set_option maxHeartbeats 4000000
noncomputable def menu : List Str := [Str.ofString "i0 a", Str.ofString "i1 b c", Str.ofString "l0 state", Str.ofString "o0 y", Str.ofString "o2 z[1]", Str.ofString "o1 ", Str.ofString "i0 i0", Str.ofString "l0  two", Str.ofString "x0 a", Str.ofString "i0", Str.ofString "i a", Str.ofString "i01 a", Str.ofString "i2 a", Str.ofString "", Str.ofString "c x", Str.ofString "o-1 a", Str.ofString "l1 r", Str.ofString "o1234567890123456789 n", Str.ofString "i0x a", Str.ofString "o3 q"]
noncomputable def remMenu : List Str := [Str.ofString "remark", Str.ofString "", Str.ofString "c", Str.ofString "x0"]

theorem ll_ok {w : World} {dp un : Nat} {gd : Option (List Code)} {cn : Str} {cs : Scope} {a : Addr} {ccd : Value} {cl : List (Str × Addr)} {outer : List Env} {A₀ : Around} {base h₀ : Heap} {L : Addr} {m : Str → Option Value} {s : Shared} {Q E : Value → Shared → Prop} {mean : ExcName → Option Value} {mg mb : Str → Option Value}
    {news : List (Addr × Obj)}
    (B : Below A₀ base outer h₀) (F : Fr h₀ L s.heap m) (X : (hd.heap_39 w.params).In h₀) (N : News h₀ L s.heap news)
    (T : Top hd.view_39 (looseW hd.view_39 LS) mean mg mb h₀) (hk : cs.kind = .function)
    (hdp : dp + 1 < recursionLimit) (hu : un + 8 < cLine)
    (ret : ∀ (D : Addr) (lv : List Value) (nl : Nat) (h' : Heap) (tk' : Nat), StrsAre lv menu → Fr h₀ L h' m → News h₀ L h' ((D, listOf lv.toArray nl) :: news) → (∀ p ∈ news, p.1 < D) → Q (.ref D) { s with heap := h', toks := tk' }) :
    wpAny (model Challenge.rw_on0091_01.row.prog w) (ktrTop dp un gd cn cs L a ccd cl outer) (call (.ref 138) []) Q E s := by
  k_with_none
  (k_with "w k_ne" => (refine neN ?_; (try dsimp only); with_reducible first | assumption | exact Ne.symm (by assumption) | exact Nat.ne_of_gt (by first | assumption | exact cj1 (by assumption) | exact ej2 (by assumption) | exact cj2 (by assumption) | exact ej3 (by assumption) | exact cj3 (by assumption) | exact ej4 (by assumption) | exact cj4 (by assumption) | exact ej5 (by assumption) | exact cj5 (by assumption) | exact ej6 (by assumption) | exact cj6 (by assumption) | exact ej7 (by assumption) | exact cj7 (by assumption) | exact ej8 (by assumption) | exact cj8 (by assumption) | exact ej9 (by assumption) | exact cj9 (by assumption) | exact ej10 (by assumption) | exact cj10 (by assumption) | exact ej11 (by assumption)) | exact Nat.ne_of_lt (by first | assumption | exact cj1 (by assumption) | exact ej2 (by assumption) | exact cj2 (by assumption) | exact ej3 (by assumption) | exact cj3 (by assumption) | exact ej4 (by assumption) | exact cj4 (by assumption) | exact ej5 (by assumption) | exact cj5 (by assumption) | exact ej6 (by assumption) | exact cj6 (by assumption) | exact ej7 (by assumption) | exact cj7 (by assumption) | exact ej8 (by assumption) | exact cj8 (by assumption) | exact ej9 (by assumption) | exact cj9 (by assumption) | exact ej10 (by assumption) | exact cj10 (by assumption) | exact ej11 (by assumption))))
  (k_with "w lt" => ((try dsimp only); with_reducible first | assumption | exact cj1 (by assumption) | exact ej2 (by assumption) | exact cj2 (by assumption) | exact ej3 (by assumption) | exact cj3 (by assumption) | exact ej4 (by assumption) | exact cj4 (by assumption) | exact ej5 (by assumption) | exact cj5 (by assumption) | exact ej6 (by assumption) | exact cj6 (by assumption) | exact ej7 (by assumption) | exact cj7 (by assumption) | exact ej8 (by assumption) | exact cj8 (by assumption) | exact ej9 (by assumption) | exact cj9 (by assumption) | exact ej10 (by assumption) | exact cj10 (by assumption) | exact ej11 (by assumption)))
  (k_with "w room" => first | exact Nat.le_of_ble_eq_true rfl | exact room0 (by assumption) rfl | exact room1 (by assumption) rfl | exact room2 (by assumption) rfl)
  (k_with "w size" => first | exact Nat.le_of_ble_eq_true rfl | exact Nat.le_trans (by with_reducible assumption) (Nat.le_of_ble_eq_true rfl))
  revert X
  k_fill
  intro X
  refine wpAny_call ?_
  k_dflt cell_enter
  k_steps
  refine' ret _ _ _ _ _ ?S ?F ?N ?l
  case N => with_reducible assumption
  case F => with_reducible assumption
  case l => with_reducible assumption
  case S =>
    unfold menu
    repeat' (first | exact StrsAre.nil | refine StrsAre.cons _ _ ?_)

theorem item_menu {prog : Program} {w : World} {A : Around} {E : Value → Shared → Prop} {s : Shared} {value slice : Expr} {a : Addr} {l : List Value} {ys : List Str} {k : Int} {u : Tok} {Q : Value → Shared → Prop} (hl : s.heap.IsList a l.toArray) (hi : StrsAre l ys) (h0 : 0 ≤ k) (hk : k < ys.length) (hfit : k < 2 ^ 63) (h : ∀ y t', y ∈ ys → Q (.str y t') s)
    (hs : subscripted slice false (.ref a) (.int k u) = operate [.ref a, .int k u] (getItem (.ref a) (.int k u)) := by with_unfolding_all rfl) :
    wpAny (model prog w) A (subscriptTail value slice (.ref a) (.int k u)) Q E s := by
  refine kba_turn (value' := PySem.Expr.Name (PySem.Str.ofString "_") ⟨0, 0, 0, 0⟩) (fun _ => rfl) (item_strsA hl hi h0 hk hfit (fun t' => h _ t' ?_) hs (fun _ => rfl))
  have : k.toNat < ys.length := by omega
  rw [List.getD_eq_getElem?_getD, List.getElem?_eq_getElem this]
  exact List.getElem_mem this

noncomputable def LawStep (h₀ : Heap) (L : Addr) (m₀ : Str → Option Value) (s : Shared) (I : Addr) (oI : Obj) (jar l : Addr) (ol : Obj) (lines : Addr) (lv : List Value) (rest : List (Addr × Obj)) (c : Int) (f : Flow) (s₃ : Shared) : Prop :=
  f = .next ∧ ∃ h' tk' m' x' c' tx' tb' nj' y ty nl', s₃ = { s with heap := h', toks := tk' } ∧ Fr h₀ L h' m' ∧ (∀ z, z ≠ Str.ofString "turn" → m' z = m₀ z) ∧ 0 ≤ x' ∧ x' < 2 ^ 300 ∧ 0 ≤ c' ∧ c' ≤ c + 2 ∧ y ∈ menu ∧
        News h₀ L h' ((I, oI) :: (jar, listOf [Value.int x' tx', Value.int c' tb', Value.ref l].toArray nj') :: (l, ol) :: (lines, listOf (lv ++ [Value.str y ty]).toArray nl') :: rest)
theorem law_step {h₀ : Heap} {L : Addr} {m₀ : Str → Option Value} {s : Shared} {I : Addr} {oI : Obj} {jar l : Addr} {ol : Obj} {lines : Addr} {lv : List Value} {rest : List (Addr × Obj)} {c : Int} {h' : Heap} {tk' : Nat} {v : Option Value} {x' c' : Int} {tx' tb' : Tok} {nj' nl' : Nat} {y : Str} {ty : Tok} {d : Addr × Obj}
    (F : Fr h₀ L h' (fun z => if z = Str.ofString "turn" then v else m₀ z))
    (N : News h₀ L h' ((jar, listOf [Value.int x' tx', Value.int c' tb', Value.ref l].toArray nj') :: (l, ol) :: d :: (I, oI) :: (lines, listOf (lv ++ [Value.str y ty]).toArray nl') :: rest))
    (h0 : 0 ≤ x') (h1 : x' < 2 ^ 300) (h2 : 0 ≤ c') (h3 : c' ≤ c + 2) (hy : y ∈ menu) : LawStep h₀ L m₀ s I oI jar l ol lines lv rest c .next { s with heap := h', toks := tk' } :=
  ⟨rfl, h', tk', _, x', c', tx', tb', nj', y, ty, nl', rfl, F, fun z hz => if_neg hz, h0, h1, h2, h3, hy, fun p hp => N p (by
    simp only [List.mem_cons] at hp ⊢
    rcases hp with h | h | h | h | h <;> simp [h])⟩
theorem law_loop {prog : Program} {w : World} {A : Around} {E : Value → Shared → Prop} {Q : Flow → Shared → Prop} {s : Shared} {env : Env} {h₀ : Heap} {body : List Stmt} {r : Addr} {b₀ : Int} {t₀ u₀ v₀ : Tok} {m₀ : Str → Option Value} {L jar l lines : Addr} {ol : Obj} {x0 c0 : Int} {tx tb : Tok} {n0 nl0 : Nat} {rest : List (Addr × Obj)}
    (hLe : env.locals = L) (hr : IsRange s.heap r 0 b₀ 1 t₀ u₀ v₀) (hb0 : 0 ≤ b₀) (hb : b₀ < 7)
    (F : Fr h₀ L s.heap m₀) (N : News h₀ L s.heap ((jar, listOf [Value.int x0 tx, Value.int c0 tb, Value.ref l].toArray n0) :: (l, ol) :: (lines, listOf ([] : List Value).toArray nl0) :: rest))
    (hx0 : 0 ≤ x0) (hx1 : x0 < 2 ^ 300) (hc0 : 0 ≤ c0) (hc1 : c0 ≤ 10)
    (turn : ∀ (i : Nat) t x c tx tb nj lv ls nl I oI h tk (u : Option Value), 0 ≤ x → x < 2 ^ 300 → 0 ≤ c → c ≤ 10 + 2 * (i : Int) → i < 7 → StrsAre lv ls → lv.length ≤ 6 → ls.length ≤ i → (∀ y ∈ ls, y ∈ menu) → oI.cls = .type "range_iterator" → @Ne Nat jar I → @Ne Nat l I → @Ne Nat lines I → (∀ p ∈ rest, p.1 ≠ I) →
      Fr h₀ L h (fun y => if y = Str.ofString "turn" then some (.int (i : Nat) t) else m₀ y) →
      News h₀ L h ((I, oI) :: (jar, listOf [Value.int x tx, Value.int c tb, Value.ref l].toArray nj) :: (l, ol) :: (lines, listOf lv.toArray nl) :: rest) →
      wpAny (model prog w) A (execs body env) (LawStep h₀ L m₀ s I oI jar l ol lines lv rest c) E { s with heap := h, toks := tk })
    (done : ∀ x c tx tb nj lv ls nl h tk (u : Option Value), 0 ≤ x → x < 2 ^ 300 → 0 ≤ c → c ≤ 24 → StrsAre lv ls → ls.length ≤ 6 → (∀ y ∈ ls, y ∈ menu) → Fr h₀ L h (fun y => if y = Str.ofString "turn" then u else m₀ y) →
      News h₀ L h ((jar, listOf [Value.int x tx, Value.int c tb, Value.ref l].toArray nj) :: (l, ol) :: (lines, listOf lv.toArray nl) :: rest) → Q .next { s with heap := h, toks := tk })
    (hh : A.handled = none) :
    wpAny (model prog w) A (pyIter (.ref r)) (fun it s₂ => LoopAtV prog w A h₀ env (Str.ofString "turn") body Q E it s₂) E s := by
  subst hLe
  obtain ⟨n, rfl⟩ := Int.eq_ofNat_of_zero_le hb0
  have em : ∀ (m : Str → Option Value) (v : Option Value), (∀ z, z ≠ Str.ofString "turn" → m z = m₀ z) → (fun y => if y = Str.ofString "turn" then v else m y) = fun y => if y = Str.ofString "turn" then v else m₀ y := fun m v h => by
    funext y
    by_cases e : y = Str.ofString "turn"
    · rw [if_pos e, if_pos e]
    · rw [if_neg e, if_neg e, h y e]
  refine rng_inv (n := n) (fun i m nx => ∃ x c tx tb nj lv ls nl, 0 ≤ x ∧ x < 2 ^ 300 ∧ 0 ≤ c ∧ c ≤ 10 + 2 * (i : Int) ∧ StrsAre lv ls ∧ ls.length ≤ i ∧ (∀ y ∈ ls, y ∈ menu) ∧ (∀ z, z ≠ Str.ofString "turn" → m z = m₀ z) ∧
      nx = (jar, listOf [Value.int x tx, Value.int c tb, Value.ref l].toArray nj) :: (l, ol) :: (lines, listOf lv.toArray nl) :: rest)
    hr ?_ ?_ F N ⟨x0, c0, tx, tb, n0, [], [], nl0, hx0, hx1, hc0, by omega, .nil, Nat.le_refl _, (fun y hy => by cases hy), fun _ _ => rfl, rfl⟩ ?_ ?_ hh
  · exact small_one (by decide) (by decide) (by omega) (by omega)
  · exact rangeSize_nat _ _
  · rintro i t m₁ nx h tk I oI hi ⟨x, c, tx', tb', nj, lv, ls, nl, h1, h2, h3, h4, hS, h5, h6, h7, rfl⟩ hI hcI F₁ N₁
    have hlv := hS.length
    rw [em _ _ h7] at F₁
    refine wpAny_mono (turn i t x c tx' tb' nj lv ls nl I oI h tk none h1 h2 h3 h4 (by omega) hS (by omega) h5 h6 hcI (hI _ (.head _)) (hI _ (.tail _ (.head _))) (hI _ (.tail _ (.tail _ (.head _)))) (fun p hp => hI p (.tail _ (.tail _ (.tail _ hp)))) F₁ N₁) (fun f s₃ p => ?_) fun _ _ e => e
    obtain ⟨rfl, h', tk', m', x', c', tx'', tb'', nj', y, ty, nl', rfl, F', hm', q1, q2, q3, q4, q5, N'⟩ := p
    have e1 := hI _ (.head _)
    have e2 := hI _ (.tail _ (.head _))
    have e3 := hI _ (.tail _ (.tail _ (.head _)))
    refine ⟨h', tk', m', _, rfl, F', N', ?_, x', c', tx'', tb'', nj', _, ls ++ [y], nl', q1, q2, q3, ?_, StrsAre.append' hS (.cons y ty .nil), ?_, ?_, hm', rfl⟩
    · intro p hp
      rcases List.mem_cons.mp hp with rfl | hp
      · exact e1
      rcases List.mem_cons.mp hp with rfl | hp
      · exact e2
      rcases List.mem_cons.mp hp with rfl | hp
      · exact e3
      · exact hI p (.tail _ (.tail _ (.tail _ hp)))
    · rw [Int.natCast_add]
      omega
    · rw [List.length_append, List.length_singleton]; omega
    · intro z hz
      rcases List.mem_append.mp hz with hz | hz
      · exact h6 z hz
      · rw [List.mem_singleton.mp hz]; exact q5
  · rintro m₁ nx h tk ⟨x, c, tx', tb', nj, lv, ls, nl, h1, h2, h3, h4, hS, h5, h6, h7, rfl⟩ F₁ N₁
    have e := em m₁ (m₁ (Str.ofString "turn")) h7
    have e' : (fun y => if y = Str.ofString "turn" then m₁ (Str.ofString "turn") else m₁ y) = m₁ := by
      funext y
      by_cases q : y = Str.ofString "turn"
      · rw [if_pos q, q]
      · rw [if_neg q]
    rw [e'] at e
    rw [e] at F₁
    exact done x c tx' tb' nj lv ls nl h tk _ h1 h2 h3 (by omega) hS (by omega) h6 F₁ N₁
end Mine
end

section
open PySem PySem.W PySem.Spec PySem.Calls PyProof.Rows
namespace Mine
theorem w_off_C13 : True := by
  w_top off
  exact trivial
set_option maxRecDepth 100000
set_option maxHeartbeats 1500000

noncomputable abbrev cds (r : Str) : List Nat := r.cps.toList
noncomputable def sameOut : Except (Str × Str) (Str × Int × Str) → Except (Str × Str) (Str × Int × Str) → Bool
  | .error a, .error b => a == b
  | .ok a, .ok b => a == b
  | _, _ => false
theorem sameOut_eq {a b : Except (Str × Str) (Str × Int × Str)} (h : sameOut a b = true) : a = b := by
  cases a <;> cases b <;> simp only [sameOut] at h
  · rw [eq_of_beq h]
  · cases h
  · cases h
  · rw [eq_of_beq h]
/-- a line of the law's -/
noncomputable def GoodB (r : Str) : Bool := (cds r).all (fun c => decide (c ≠ 10) && decide (c < 128)) && decide ((cds r).length ≤ 30) && sameOut (dueLine r) (line r)
noncomputable def allMenu : List Str := menu ++ [Str.ofString "c"] ++ remMenu
theorem menu_good : allMenu.all GoodB = true := by decide +kernel
structure GoodL (r : Str) : Prop where
  no10 : ∀ c ∈ cds r, c ≠ 10
  ascii : ∀ c ∈ cds r, c < 128
  short : (cds r).length ≤ 30
  same : dueLine r = line r
theorem good_of {r : Str} (h : r ∈ allMenu) : GoodL r := by
  have g := List.all_eq_true.mp menu_good r h
  simp only [GoodB, Bool.and_eq_true, List.all_eq_true, decide_eq_true_eq] at g
  exact ⟨fun c hc => (g.1.1 c hc).1, fun c hc => (g.1.1 c hc).2, g.1.2, sameOut_eq g.2⟩

/-- the codes of the lines, joined, with an end or without -/
noncomputable def bodyOf (ended : Bool) : List Str → List Nat
  | [] => []
  | l :: r => cds l ++ (if r.isEmpty && !ended then [] else 10 :: bodyOf ended r)

theorem tw_all : ∀ (l r : List Nat), (∀ c ∈ l, c ≠ 10) → (l ++ 10 :: r).takeWhile (· ≠ 10) = l
  | [], r, _ => by simp
  | a :: l, r, h => by
    rw [List.cons_append, List.takeWhile_cons, if_pos (by simpa using h a (.head _)), tw_all l r fun c hc => h c (.tail _ hc)]
theorem tw_all' : ∀ (l : List Nat), (∀ c ∈ l, c ≠ 10) → l.takeWhile (· ≠ 10) = l
  | [], _ => rfl
  | a :: l, h => by
    rw [List.takeWhile_cons, if_pos (by simpa using h a (.head _)), tw_all' l fun c hc => h c (.tail _ hc)]
theorem str_back (l : Str) : (⟨(cds l).toArray⟩ : Str) = l := by cases l; simp [cds]
theorem len_cds (l : Str) : (cds l).length = l.length := by simp [cds, Str.length]

section
variable {ks : List Nat} {p : Nat} {l : Str} {r : List Str} {ended : Bool}
theorem at_next {a b : List Nat} (h : ks.drop p = a ++ 10 :: b) : ks.drop (p + a.length + 1) = b := by
  rw [show p + a.length + 1 = p + (a.length + 1) from by omega, ← List.drop_drop, h]
  simp
theorem at_lt {a b : List Nat} (h : ks.drop p = a ++ 10 :: b) : p + a.length < ks.length := by
  have := congrArg List.length h
  simp only [List.length_drop, List.length_append, List.length_cons] at this
  omega
theorem at_end {a : List Nat} (hp : p ≤ ks.length) (h : ks.drop p = a) : p + a.length = ks.length := by
  have := congrArg List.length h
  simp only [List.length_drop] at this
  omega
theorem seg_row {a b : List Nat} (ha : ∀ c ∈ a, c ≠ 10) (h : ks.drop p = a ++ 10 :: b) : seg ks p = a := by
  unfold seg
  rw [h, tw_all _ _ ha]
theorem seg_last {a : List Nat} (ha : ∀ c ∈ a, c ≠ 10) (h : ks.drop p = a) : seg ks p = a := by
  unfold seg
  rw [h, tw_all' _ ha]
end

theorem cmt_due {ks : List Nat} {ended : Bool} {nms : List (Str × Int × Str)} : ∀ (ls : List Str) (p : Nat) (rs : List Str) (o : Option (List Str)), (∀ l ∈ ls, GoodL l) → p ≤ ks.length → ks.drop p = bodyOf ended ls → Cmt ks p o →
    dueGo ended ls p nms (some rs) = (match o with | some rows => .ok nms (rs ++ rows) | none => .err (Str.ofString "cut_off") ks.length (Str.ofString ""))
  | [], p, rs, o, _, hp, hd, hC => by
    have hl := at_end hp hd
    simp only [bodyOf, List.length_nil] at hl
    cases hC with
    | stop h => simp [dueGo]
    | cut h _ => omega
    | row h _ _ => omega
  | l :: r, p, rs, o, hg, hp, hd, hC => by
    have gl := hg l (.head _)
    unfold bodyOf at hd
    by_cases hq : (r.isEmpty && !ended) = true
    · rw [if_pos hq, List.append_nil] at hd
      have hl := at_end hp hd
      have hs := seg_last gl.no10 hd
      unfold dueGo
      by_cases he : l = Str.ofString ""
      · subst he
        have h0 : (cds (Str.ofString "")).length = 0 := by decide +kernel
        rw [hq, if_neg (by decide), if_pos rfl]
        cases hC with
        | stop h => simp
        | cut h _ => omega
        | row h _ _ => omega
      · have h1 : 0 < (cds l).length := by
          rcases Nat.eq_zero_or_pos (cds l).length with h0 | h0
          · exfalso
            apply he
            rw [← str_back l, List.eq_nil_of_length_eq_zero h0]
            rfl
          · exact h0
        rw [hq, show (l != Str.ofString "") = true from by simpa using he, if_pos rfl]
        cases hC with
        | stop h => omega
        | cut h _ => rw [← hl, len_cds]; simp
        | row h h2 _ => rw [hs] at h2; omega
    · rw [if_neg hq] at hd
      have hs := seg_row gl.no10 hd
      have hlt := at_lt hd
      have hnx := at_next hd
      rw [Bool.not_eq_true] at hq
      unfold dueGo
      rw [hq, Bool.false_and, if_neg (by decide), if_neg (by decide)]
      dsimp only
      cases hC with
      | stop h => omega
      | cut h h2 => rw [hs] at h2; omega
      | @row _ o' h h2 h3 =>
        rw [hs] at h3 ⊢
        have ih := cmt_due (nms := nms) r _ (rs ++ [l]) o' (fun z hz => hg z (.tail _ hz)) (by omega) hnx h3
        rw [len_cds] at ih
        have e : ((p + l.length + 1 : Nat) : Int) = (p : Int) + l.length + 1 := by simp
        rw [e] at ih
        rw [ih, str_back]
        cases o' with
        | none => rfl
        | some rows => simp

theorem due_pre {ended : Bool} : ∀ (ls : List Str) (at_ : Int) (a b : List (Str × Int × Str)) (rem : Option (List Str)), dueGo ended ls at_ (a ++ b) rem = (dueGo ended ls at_ b rem).pre a
  | [], _, a, b, rem => rfl
  | l :: r, at_, a, b, rem => by
    unfold dueGo
    split
    · rfl
    · split
      · rfl
      · cases rem with
        | some rs => exact due_pre r _ a b _
        | none =>
          dsimp only
          split
          · exact due_pre r _ a b _
          · cases dueLine l with
            | error x => rfl
            | ok n =>
              dsimp only
              rw [List.append_assoc]
              exact due_pre r _ a (b ++ [n]) _

theorem names_due {ks : List Nat} {ended : Bool} : ∀ (ls : List Str) (p : Nat) (o : Res), (∀ l ∈ ls, GoodL l) → p ≤ ks.length → ks.drop p = bodyOf ended ls → Names ks p o →
    dueGo ended ls p [] none = o
  | [], p, o, _, hp, hd, hC => by
    have hl := at_end hp hd
    simp only [bodyOf, List.length_nil] at hl
    cases hC with
    | stop h => rfl
    | cut h _ => omega
    | cOk h _ _ _ => omega
    | cCut h _ _ _ => omega
    | bad h _ _ _ => omega
    | name h _ _ _ _ => omega
  | l :: r, p, o, hg, hp, hd, hC => by
    have gl := hg l (.head _)
    unfold bodyOf at hd
    by_cases hq : (r.isEmpty && !ended) = true
    · rw [if_pos hq, List.append_nil] at hd
      have hl := at_end hp hd
      have hs := seg_last gl.no10 hd
      unfold dueGo
      by_cases he : l = Str.ofString ""
      · subst he
        have h0 : (cds (Str.ofString "")).length = 0 := by decide +kernel
        rw [hq, if_neg (by decide), if_pos rfl]
        cases hC with
        | stop h => rfl
        | cut h _ => omega
        | cOk h _ _ _ => omega
        | cCut h _ _ _ => omega
        | bad h _ _ _ => omega
        | name h _ _ _ _ => omega
      · have h1 : 0 < (cds l).length := by
          rcases Nat.eq_zero_or_pos (cds l).length with h0 | h0
          · exfalso
            apply he
            rw [← str_back l, List.eq_nil_of_length_eq_zero h0]
            rfl
          · exact h0
        rw [hq, show (l != Str.ofString "") = true from by simpa using he, if_pos rfl]
        cases hC with
        | stop h => omega
        | cut h _ => rw [← hl, len_cds]; simp
        | cOk h h2 _ _ => rw [hs] at h2; omega
        | cCut h h2 _ _ => rw [hs] at h2; omega
        | bad h h2 _ _ => rw [hs] at h2; omega
        | name h h2 _ _ _ => rw [hs] at h2; omega
    · rw [if_neg hq] at hd
      have hs := seg_row gl.no10 hd
      have hlt := at_lt hd
      have hnx := at_next hd
      have e : ((p + l.length + 1 : Nat) : Int) = (p : Int) + l.length + 1 := by simp
      have hrow : rowAt ks p = l := by show (⟨(seg ks p).toArray⟩ : Str) = l; rw [hs, str_back]
      rw [Bool.not_eq_true] at hq
      unfold dueGo
      rw [hq, Bool.false_and, if_neg (by decide), if_neg (by decide)]
      dsimp only
      cases hC with
      | stop h => omega
      | cut h h2 => rw [hs] at h2; omega
      | @cOk _ rows h h2 hc h3 =>
        rw [hrow] at hc
        rw [hs] at h3
        have := cmt_due (nms := []) r _ [] _ (fun z hz => hg z (.tail _ hz)) (by omega) hnx h3
        rw [len_cds, e] at this
        rw [if_pos hc, this]
        rfl
      | cCut h h2 hc h3 =>
        rw [hrow] at hc
        rw [hs] at h3
        have := cmt_due (nms := []) r _ [] _ (fun z hz => hg z (.tail _ hz)) (by omega) hnx h3
        rw [len_cds, e] at this
        rw [if_pos hc, this]
      | bad h h2 hc h3 =>
        rw [hrow] at hc h3
        rw [if_neg (by rw [hc]; decide), gl.same, h3]
      | @name _ n o' h h2 hc h3 h4 =>
        rw [hrow] at hc h3
        rw [hs] at h4
        have ih := names_due r _ o' (fun z hz => hg z (.tail _ hz)) (by omega) hnx h4
        rw [len_cds, e] at ih
        rw [if_neg (by rw [hc]; decide), gl.same, h3]
        exact (due_pre r _ [n] [] none).trans (congrArg _ ih)

/-! ## the text of the law -/
theorem cds_append (a b : Str) : cds (a ++ b) = cds a ++ cds b := by
  show (a.cps ++ b.cps).toList = _
  simp [cds]
theorem body_join (ended : Bool) : ∀ (ls : List Str), cds (Str.join (Str.ofString "\n") ls) ++ (if ended && !ls.isEmpty then [10] else []) = bodyOf ended ls
  | [] => by simp [bodyOf]; rfl
  | [l] => by
    show cds l ++ _ = cds l ++ _
    cases ended <;> rfl
  | l :: y :: r => by
    have ih := body_join ended (y :: r)
    show cds (l ++ Str.ofString "\n" ++ Str.join (Str.ofString "\n") (y :: r)) ++ _ = cds l ++ _
    rw [cds_append, cds_append, List.append_assoc, List.append_assoc]
    have e : (ended && !(l :: y :: r).isEmpty) = (ended && !(y :: r).isEmpty) := rfl
    rw [e, ih]
    have e2 : cds (Str.ofString "\n") = [10] := by decide +kernel
    rw [e2, if_neg (by simp)]
    rfl
end Mine
end

section
open PySem PySem.W PySem.Spec PySem.Calls PyProof.Rows
namespace Mine
theorem w_off_C12b : True := by
  w_top off
  exact trivial
set_option maxRecDepth 100000
set_option maxHeartbeats 1500000

noncomputable abbrev jarO (x c : Int) (tx tb : Tok) (l : Addr) (n : Nat) : Obj := listOf [Value.int x tx, Value.int c tb, Value.ref l].toArray n

/-- what one turn of the remark's comprehension leaves -/
noncomputable def RemStep (h₀ : Heap) (L : Addr) (m : Str → Option Value) (s : Shared) (I : Addr) (oI : Obj) (C : Addr) (oC : Obj) (D : Addr) (ys : List Value) (jar l : Addr) (ol : Obj) (rest : List (Addr × Obj)) (c : Int) (y : Value) (s₂ : Shared) : Prop :=
  ∃ h' tk' x' c' tx' tb' nj' r t', s₂ = { s with heap := h', toks := tk' } ∧ y = .str r t' ∧ r ∈ remMenu ∧ 0 ≤ x' ∧ x' < 2 ^ 300 ∧ 0 ≤ c' ∧ c' ≤ c + 1 ∧ Fr h₀ L h' m ∧ News h₀ L h' ((jar, jarO x' c' tx' tb' l nj') :: (l, ol) :: (I, oI) :: (C, oC) :: (D, LCg.lst ys) :: rest)

theorem nw_rem {h₀ h : Heap} {L : Addr} {i c d j l : Addr × Obj} {rest : List (Addr × Obj)} (N : News h₀ L h (i :: c :: d :: j :: l :: rest)) : News h₀ L h (j :: l :: i :: c :: d :: rest) := fun p hp => N p (by
  simp only [List.mem_cons] at hp ⊢
  rcases hp with h | h | h | h | h | h <;> simp [h])
theorem nw_rem' {h₀ h : Heap} {L : Addr} {i c d j l : Addr × Obj} {rest : List (Addr × Obj)} (N : News h₀ L h (j :: l :: i :: c :: d :: rest)) : News h₀ L h (i :: c :: d :: j :: l :: rest) := fun p hp => N p (by
  simp only [List.mem_cons] at hp ⊢
  rcases hp with h | h | h | h | h | h <;> simp [h])

theorem rem_rest {prog : Program} {w : World} {A : Around} {h₀ : Heap} {L : Addr} {m : Str → Option Value} {env : Env} {elt : Expr} {x : Str} {scope : Scope} {cl : List (Str × Addr)} {s : Shared} {Fin : List Value → List (Addr × Obj) → Prop}
    {jar l : Addr} {ol : Obj} {rest : List (Addr × Obj)} {n : Nat} {x0 c0 : Int} {tx0 tb0 : Tok} {nj0 : Nat}
    (hx0 : 0 ≤ x0) (hx1 : x0 < 2 ^ 300) (hc0 : 0 ≤ c0)
    (turn : ∀ (i : Nat) I oI C oC D m₂ ys h tk t xv c tx tb nj (E' : Value → Shared → Prop), 0 ≤ xv → xv < 2 ^ 300 → 0 ≤ c → c ≤ c0 + (i : Int) → i < n → LCg.NsObj oC m₂ → m₂ x = some (.int (i : Nat) t) → Fr h₀ L h m → News h₀ L h ((jar, jarO xv c tx tb l nj) :: (l, ol) :: (I, oI) :: (C, oC) :: (D, LCg.lst ys) :: rest) →
      @Ne Nat jar I → @Ne Nat jar C → @Ne Nat jar D → @Ne Nat l I → @Ne Nat l C → @Ne Nat l D → LCg.Off3 I C D rest → ((@Ne Nat I C) ∧ (@Ne Nat I D) ∧ (@Ne Nat C D)) →
      wpAny (model prog w) A (eval elt (compEnvC scope cl C env)) (RemStep h₀ L m s I oI C oC D ys jar l ol rest c) E' { s with heap := h, toks := tk })
    (fin : ∀ ys ls xv c tx tb nj, StrsAre ys ls → ls.length = n → (∀ y ∈ ls, y ∈ remMenu) → 0 ≤ xv → xv < 2 ^ 300 → 0 ≤ c → c ≤ c0 + (n : Int) → Fin ys ((jar, jarO xv c tx tb l nj) :: (l, ol) :: rest)) :
    LCg.CompRest prog w A h₀ L m env elt x scope cl s (fun _ => True) (fun i v => ∃ t, v = .int (0 + (i : Int)) t) Fin n 0 [] ((jar, jarO x0 c0 tx0 tb0 l nj0) :: (l, ol) :: rest) := by
  have key : ∀ (j i : Nat) (ys : List Value) (ls : List Str) (xv c : Int) (tx tb : Tok) (nj : Nat), i + j = n → StrsAre ys ls → ls.length = i → (∀ y ∈ ls, y ∈ remMenu) → 0 ≤ xv → xv < 2 ^ 300 → 0 ≤ c → c ≤ c0 + (i : Int) →
      LCg.CompRest prog w A h₀ L m env elt x scope cl s (fun _ => True) (fun i v => ∃ t, v = .int (0 + (i : Int)) t) Fin j i ys ((jar, jarO xv c tx tb l nj) :: (l, ol) :: rest) := by
    intro j
    induction j with
    | zero =>
      intro i ys ls xv c tx tb nj hi hS hl hm h1 h2 h3 h4
      obtain rfl : i = n := by omega
      exact LCg.CompRest.zero (fin ys ls xv c tx tb nj hS hl hm h1 h2 h3 h4)
    | succ j ih =>
      intro i ys ls xv c tx tb nj hi hS hl hm h1 h2 h3 h4
      refine LCg.CompRest.succ ?_
      intro v I oI C oC D m₂ h tk E' hv hC hx F N off ne
      obtain ⟨t, hv⟩ := hv
      rw [Int.zero_add] at hv
      rw [hv] at hx
      obtain ⟨⟨a1, a2, a3⟩, ⟨b1, b2, b3⟩, off'⟩ := off
      refine wpAny_mono (turn i I oI C oC D m₂ ys h tk t xv c tx tb nj E' h1 h2 h3 h4 (by omega) hC hx F (nw_rem N) a1 a2 a3 b1 b2 b3 off' ne) (fun y s₂ hq => ?_) fun _ _ e => e
      obtain ⟨h', tk', x', c', tx', tb', nj', r, t', rfl, rfl, q1, q2, q3, q4, q5, F', N'⟩ := hq
      refine ⟨h', tk', _, rfl, F', nw_rem' N', ⟨⟨a1, a2, a3⟩, ⟨b1, b2, b3⟩, off'⟩, trivial, ?_⟩
      refine ih (i + 1) _ (ls ++ [r]) x' c' tx' tb' nj' (by omega) (StrsAre.append' hS (.cons r t' .nil)) (by rw [List.length_append, List.length_singleton, hl]) (fun z hz => ?_) q2 q3 q4 (by rw [Int.natCast_add]; omega)
      rcases List.mem_append.mp hz with hz | hz
      · exact hm z hz
      · rw [List.mem_singleton.mp hz]; exact q1
  exact key n 0 [] [] x0 c0 tx0 tb0 nj0 (by omega) .nil rfl (fun y hy => by cases hy) hx0 hx1 hc0 (by omega)

theorem off1_mem {D : Addr} : ∀ {l : List (Addr × Obj)}, LCg.Off1 D l → ∀ p ∈ l, p.1 ≠ D
  | [], _, _, h => nomatch h
  | _ :: _, x, p, h => by
    rcases List.mem_cons.mp h with rfl | h
    · exact x.1
    · exact off1_mem x.2 p h

/-- the remark's comprehension: [menu[draw] for turn in range(b)] -/
theorem rem_src {prog : Program} {w : World} {A : Around} {h₀ : Heap} {L : Addr} {m : Str → Option Value} {env : Env} {elt : Expr} {x : Str} {scope : Scope} {cl : List (Str × Addr)} {s : Shared} {Q : Value → Shared → Prop}
    {jar l r : Addr} {ol : Obj} {rest : List (Addr × Obj)} {b x0 c0 : Int} {tx0 tb0 t u v : Tok} {nj0 : Nat}
    (hh : A.handled = none) (F : Fr h₀ L s.heap m) (N : News h₀ L s.heap ((jar, jarO x0 c0 tx0 tb0 l nj0) :: (l, ol) :: rest)) (hr : IsRange s.heap r 0 b 1 t u v) (hb0 : 0 ≤ b) (hb1 : b < 7)
    (hx0 : 0 ≤ x0) (hx1 : x0 < 2 ^ 300) (hc0 : 0 ≤ c0)
    (turn : ∀ (i : Nat) I oI C oC D m₂ ys h tk t xv c tx tb nj (E' : Value → Shared → Prop), 0 ≤ xv → xv < 2 ^ 300 → 0 ≤ c → c ≤ c0 + (i : Int) → i < 7 → LCg.NsObj oC m₂ → m₂ x = some (.int (i : Nat) t) → Fr h₀ L h m → News h₀ L h ((jar, jarO xv c tx tb l nj) :: (l, ol) :: (I, oI) :: (C, oC) :: (D, LCg.lst ys) :: rest) →
      @Ne Nat jar I → @Ne Nat jar C → @Ne Nat jar D → @Ne Nat l I → @Ne Nat l C → @Ne Nat l D → LCg.Off3 I C D rest → ((@Ne Nat I C) ∧ (@Ne Nat I D) ∧ (@Ne Nat C D)) →
      wpAny (model prog w) A (eval elt (compEnvC scope cl C env)) (RemStep h₀ L m s I oI C oC D ys jar l ol rest c) E' { s with heap := h, toks := tk })
    (fin : ∀ ys ls xv c tx tb nj D h tk, StrsAre ys ls → ls.length ≤ 7 → (∀ y ∈ ls, y ∈ remMenu) → 0 ≤ xv → xv < 2 ^ 300 → 0 ≤ c → c ≤ c0 + 7 → Fr h₀ L h m → News h₀ L h ((D, listOf ys.toArray ys.length) :: (jar, jarO xv c tx tb l nj) :: (l, ol) :: rest) →
      @Ne Nat jar D → @Ne Nat l D → (∀ p ∈ rest, p.1 ≠ D) → Q (.ref D) { s with heap := h, toks := tk }) :
    LCg.CompSrc prog w A h₀ L m env elt x scope cl (fun s₂ => LCg.FinE h₀ L m s₂ Q) (.ref r) s := by
  obtain ⟨n, rfl⟩ := Int.eq_ofNat_of_zero_le hb0
  have hn : n < 7 := by omega
  refine LCg.CompSrc.range (n := n) hh F N hr (small_one (by decide) (by decide) (by omega) (by omega)) (rangeSize_nat _ _) (Nat.le_trans (Nat.le_of_lt hn) (by rw [sizeLine_eq]; decide)) fun g => ?_
  refine rem_rest hx0 hx1 hc0 (fun i I oI C oC D m₂ ys h tk t xv c tx tb nj E' h1 h2 h3 h4 h5 hC hx F N a1 a2 a3 b1 b2 b3 off ne => ?_) (fun ys ls xv c tx tb nj hS hl hm h1 h2 h3 h4 => ?_)
  · exact turn i I oI C oC D m₂ ys h tk t xv c tx tb nj E' h1 h2 h3 h4 (by omega) hC hx F N a1 a2 a3 b1 b2 b3 off ne
  · intro D h tk F N off
    have o := off1_mem off
    exact fin ys ls xv c tx tb nj D h tk hS (by omega) hm h1 h2 h3 (by omega) F N (o _ (.head _)) (o _ (.tail _ (.head _))) fun p hp => o p (.tail _ (.tail _ hp))

theorem rem_step {h₀ : Heap} {L : Addr} {m : Str → Option Value} {s : Shared} {I : Addr} {oI : Obj} {C : Addr} {oC : Obj} {D : Addr} {ys : List Value} {jar l : Addr} {ol : Obj} {rest : List (Addr × Obj)} {c x' c' : Int} {h' : Heap} {tk' nj' : Nat} {tx' tb' t' : Tok} {r : Str} {d : Addr × Obj}
    (F : Fr h₀ L h' m) (N : News h₀ L h' ((jar, jarO x' c' tx' tb' l nj') :: (l, ol) :: d :: (I, oI) :: (C, oC) :: (D, LCg.lst ys) :: rest)) (hr : r ∈ remMenu) (h0 : 0 ≤ x') (h1 : x' < 2 ^ 300) (h2 : 0 ≤ c') (h3 : c' ≤ c + 1) :
    RemStep h₀ L m s I oI C oC D ys jar l ol rest c (.str r t') { s with heap := h', toks := tk' } :=
  ⟨h', tk', x', c', tx', tb', nj', r, t', rfl, rfl, hr, h0, h1, h2, h3, F, fun p hp => N p (by
    simp only [List.mem_cons] at hp ⊢
    rcases hp with h | h | h <;> simp [h])⟩

theorem item_rem {prog : Program} {w : World} {A : Around} {E : Value → Shared → Prop} {s : Shared} {value slice : Expr} {a : Addr} {l : List Value} {k : Int} {u : Tok} {Q : Value → Shared → Prop} (hl : s.heap.IsList a l.toArray) (hi : StrsAre l remMenu) (h0 : 0 ≤ k) (hk : k < 4) (h : ∀ y t', y ∈ remMenu → Q (.str y t') s)
    (hs : subscripted slice false (.ref a) (.int k u) = operate [.ref a, .int k u] (getItem (.ref a) (.int k u)) := by with_unfolding_all rfl) :
    wpAny (model prog w) A (subscriptTail value slice (.ref a) (.int k u)) Q E s :=
  item_menu hl hi h0 hk (by omega) h hs

theorem add_strs {prog : Program} {w : World} {A : Around} {E : Value → Shared → Prop} {s : Shared} {h₀ : Heap} {L a b : Addr} {m : Str → Option Value} {news : List (Addr × Obj)} {vs ws : List Value} {ls ms : List Str} {Q : Value → Shared → Prop} (F : Fr h₀ L s.heap m) (N : News h₀ L s.heap news) (ha : s.heap.IsList a vs.toArray) (hb : s.heap.IsList b ws.toArray) (hS : StrsAre vs ls) (hT : StrsAre ws ms)
    (hz : ls.length + ms.length ≤ 100)
    (h : ∀ D us h', StrsAre us (ls ++ ms) → Fr h₀ L h' m → News h₀ L h' ((D, listOf (List.toArray us) 0) :: news) → (∀ p ∈ news, p.1 < D) → Q (.ref D) { s with heap := h' }) : wpAny (model prog w) A (binaryOp .Add (.ref a) (.ref b)) Q E s :=
  add_lists (hsz := by rw [hS.length, hT.length]; exact Nat.le_trans hz (by rw [sizeLine_eq]; decide)) F N ha hb fun h' F' N' => h _ (vs ++ ws) h' (StrsAre.append' hS hT) F' N' fun p hp => Heap.lt_size (N p hp).1

/-- after the remark was added or not -/
noncomputable def LawMid (h₀ : Heap) (L : Addr) (m : Str → Option Value) (s : Shared) (jar l : Addr) (ol : Obj) (rest : List (Addr × Obj)) (s₂ : Shared) : Prop :=
  ∃ h tk x c tx tb nj lines lv ls nl m', s₂ = { s with heap := h, toks := tk } ∧ 0 ≤ x ∧ x < 2 ^ 300 ∧ 0 ≤ c ∧ c ≤ 60 ∧ StrsAre lv ls ∧ ls.length ≤ 20 ∧ (∀ y ∈ ls, y ∈ allMenu) ∧ Fr h₀ L h m' ∧ m' (Str.ofString "lines") = some (.ref lines) ∧ (∀ z, z ≠ Str.ofString "lines" → m' z = m z) ∧
    (∀ p ∈ (jar, ol) :: (l, ol) :: rest, p.1 < lines) ∧ News h₀ L h ((jar, jarO x c tx tb l nj) :: (l, ol) :: (lines, listOf lv.toArray nl) :: rest)

noncomputable def LawIf (h₀ : Heap) (L : Addr) (m : Str → Option Value) (s : Shared) (jar l : Addr) (ol : Obj) (rest : List (Addr × Obj)) (f : Flow) (s₂ : Shared) : Prop := f = .next ∧ LawMid h₀ L m s jar l ol rest s₂
theorem exec_mid {prog : Program} {w : World} {A : Around} {E : Value → Shared → Prop} {s : Shared} {env : Env} {st : Stmt} {sts : List Stmt} {Q : Flow → Shared → Prop} {h₀ : Heap} {L : Addr} {m : Str → Option Value} {jar l : Addr} {ol : Obj} {q : Addr × Obj} {rest : List (Addr × Obj)} {oj : Obj}
    (_ : Fr h₀ L s.heap m) (_ : News h₀ L s.heap ((jar, oj) :: (l, ol) :: q :: rest))
    (h1 : wpAny (model prog w) A (exec st env) (LawIf h₀ L m s jar l ol rest) E s) (h2 : ∀ s₂, LawMid h₀ L m s jar l ol rest s₂ → wpAny (model prog w) A (execs sts env) Q E s₂) : wpAny (model prog w) A (execs (st :: sts) env) Q E s :=
  exec_then _ (wpAny_mono h1 (fun _ _ q => q) fun _ _ e => e) h2
theorem law_if {h₀ : Heap} {L : Addr} {m m' : Str → Option Value} {s : Shared} {jar l : Addr} {ol : Obj} {rest nn : List (Addr × Obj)} {h : Heap} {tk nj nl : Nat} {x c : Int} {tx tb : Tok} {lines : Addr} {lv : List Value} {ls : List Str}
    (F : Fr h₀ L h m') (N : News h₀ L h nn) (sub : ∀ p ∈ (jar, jarO x c tx tb l nj) :: (l, ol) :: (lines, listOf lv.toArray nl) :: rest, p ∈ nn) (hS : StrsAre lv ls)
    (hl : m' (Str.ofString "lines") = some (.ref lines)) (hz : ∀ z, z ≠ Str.ofString "lines" → m' z = m z) (h0 : 0 ≤ x) (h1 : x < 2 ^ 300) (h2 : 0 ≤ c) (h3 : c ≤ 60) (h4 : ls.length ≤ 20) (h5 : ∀ y ∈ ls, y ∈ allMenu)
    (h6 : ∀ p ∈ (jar, ol) :: (l, ol) :: rest, p.1 < lines) : LawIf h₀ L m s jar l ol rest .next { s with heap := h, toks := tk } :=
  ⟨rfl, h, tk, x, c, tx, tb, nj, lines, lv, ls, nl, m', rfl, h0, h1, h2, h3, hS, h4, h5, F, hl, hz, h6, fun p hp => N p (sub p hp)⟩
theorem all_a {y : Str} (h : y ∈ menu) : y ∈ allMenu := List.mem_append.mpr (.inl (List.mem_append.mpr (.inl h)))
theorem all_c : Str.ofString "c" ∈ allMenu := List.mem_append.mpr (.inl (List.mem_append.mpr (.inr (List.mem_singleton.mpr rfl))))
theorem all_r {y : Str} (h : y ∈ remMenu) : y ∈ allMenu := List.mem_append.mpr (.inr h)
theorem all_cr {ls ms : List Str} (h1 : ∀ y ∈ ls, y ∈ menu) (h2 : ∀ y ∈ ms, y ∈ remMenu) : ∀ y ∈ (ls ++ [Str.ofString "c"]) ++ ms, y ∈ allMenu := fun y hy => by
  rcases List.mem_append.mp hy with hy | hy
  · rcases List.mem_append.mp hy with hy | hy
    · exact all_a (h1 y hy)
    · rw [List.mem_singleton.mp hy]; exact all_c
  · exact all_r (h2 y hy)
end Mine
end

section
open PySem PySem.W PySem.Spec PySem.Calls PyProof.Rows
namespace Mine
theorem w_off_C14 : True := by
  w_top off
  exact trivial
set_option maxRecDepth 100000
set_option maxHeartbeats 1500000

/-! ## comparing two data -/
section
variable {prog : Program} {w : World} {A : Around} {E : Value → Shared → Prop} {s : Shared} {h₀ : Heap} {L : Addr} {a b : Value} {news n₁ n₂ : List (Addr × Obj)} {d e : Dat} {Q : Value → Shared → Prop}
theorem dat_t (hd : kqdOk 8 d = true) (he : kqdOk 8 e = true) (h : d = e) : PyData.eqv (kqdP d) (kqdP e) = true := (kqd_eqv 8 d e 8 hd he).mpr h
theorem dat_f (hd : kqdOk 8 d = true) (he : kqdOk 8 e = true) (h : d ≠ e) : PyData.eqv (kqdP d) (kqdP e) = false := Bool.eq_false_iff.mpr fun x => h ((kqd_eqv 8 d e 8 hd he).mp x)
theorem dat_shaped (hd : kqdOk 8 d = true) : SeqAt.shaped (kqdP d) = true := by
  have la := kqd_lay 8 d hd
  unfold SeqAt.shaped; rw [la.1, Bool.true_and]; exact decide_eq_true (Nat.le_trans la.2 (by decide))
theorem dat_ne (N : News h₀ L s.heap news) (Da : DatIn n₁ a d) (sa : ∀ p ∈ n₁, p ∈ news) (Db : DatIn n₂ b e) (sb : ∀ p ∈ n₂, p ∈ news)
    (ha : kqdOk 8 d = true) (hb : kqdOk 8 e = true) (hu : A.units + 64 < cLine) (de : d = e) (h : Q (.bool false) s) : wpAny (model prog w) A (compareOp .NotEq a b) Q E s := by
  obtain ⟨as, ra⟩ := kqd_in N 8 (Da.mono sa) ha
  obtain ⟨bs, rb⟩ := kqd_in N 8 (Db.mono sb) hb
  refine ne_dataH ra rb (dat_shaped ha) (dat_shaped hb) hu ?_
  rw [dat_t ha hb de]
  exact h
theorem dat_eq (N : News h₀ L s.heap news) (Da : DatIn n₁ a d) (sa : ∀ p ∈ n₁, p ∈ news) (Db : DatIn n₂ b e) (sb : ∀ p ∈ n₂, p ∈ news)
    (ha : kqdOk 8 d = true) (hb : kqdOk 8 e = true) (hu : A.units + 64 < cLine) (de : d = e) (h : Q (.bool true) s) : wpAny (model prog w) A (compareOp .Eq a b) Q E s := by
  obtain ⟨as, ra⟩ := kqd_in N 8 (Da.mono sa) ha
  obtain ⟨bs, rb⟩ := kqd_in N 8 (Db.mono sb) hb
  refine eq_dataH ra rb (dat_shaped ha) (dat_shaped hb) hu ?_
  rw [dat_t ha hb de]
  exact h
theorem strs_dat {n : List (Addr × Obj)} : ∀ {lv : List Value} {ls : List Str}, StrsAre lv ls → DatAll n lv (ls.map Dat.str)
  | _, _, .nil => .nil
  | _, _, .cons x t r => .cons (.str x t) (strs_dat r)
theorem ne_nil {lines : Addr} {lv : List Value} {ls : List Str} {nl k : Nat} {b' : Addr} (N : News h₀ L s.heap news) (ma : (lines, listOf lv.toArray nl) ∈ news) (mb : (b', listOf ([] : List Value).toArray k) ∈ news) (hS : StrsAre lv ls) (hk : ∀ l ∈ ls, PyData.strOk l = true)
    (hu : A.units + 64 < cLine) (h : Q (.bool (!ls.isEmpty)) s) : wpAny (model prog w) A (compareOp .NotEq (.ref lines) (.ref b')) Q E s := by
  have Da : DatIn news (.ref lines) (.list (ls.map Dat.str)) := .list ma (strs_dat hS)
  have Db : DatIn news (.ref b') (.list []) := .list mb .nil
  have ha : kqdOk 8 (.list (ls.map Dat.str)) = true := by
    simp only [kqdOk, List.all_eq_true]
    intro x hx
    obtain ⟨y, hy, rfl⟩ := List.mem_map.mp hx
    exact hk y hy
  have hb : kqdOk 8 (.list []) = true := rfl
  obtain ⟨as, ra⟩ := kqd_in N 8 Da ha
  obtain ⟨bs, rb⟩ := kqd_in N 8 Db hb
  refine ne_dataH ra rb (dat_shaped ha) (dat_shaped hb) hu ?_
  cases ls with
  | nil => rw [dat_t ha hb rfl]; exact h
  | cons l r => rw [dat_f ha hb (by intro e; cases e)]; exact h
end

/-! ## what is due is a datum that can be compared -/
noncomputable def okStr (x : Str) : Bool := PyData.strOk x
noncomputable def okLine : Except (Str × Str) (Str × Int × Str) → Bool
  | .error (k, d) => PyData.strOk k && PyData.strOk d
  | .ok (k, _, b) => PyData.strOk k && PyData.strOk b
theorem menu_okStr : allMenu.all (fun r => PyData.strOk r && okLine (dueLine r)) = true := by decide +kernel
noncomputable def ResOk : Res → Prop
  | .ok nm rows => (∀ n ∈ nm, PyData.strOk n.1 = true ∧ PyData.strOk n.2.2 = true) ∧ ∀ r ∈ rows, PyData.strOk r = true
  | .err k _ d => PyData.strOk k = true ∧ PyData.strOk d = true
theorem res_ok {r : Res} (h : ResOk r) : kqdOk 8 (resDat r) = true := by
  cases r with
  | err k a d =>
    show ([Dat.str k, Dat.int a, Dat.str d].all (kqdOk 7)) = true
    simp only [List.all_cons, List.all_nil, kqdOk, Bool.and_true, Bool.true_and, Bool.and_eq_true]
    exact h
  | ok nm rows =>
    show ([Dat.tuple (nm.map datName), Dat.tuple (rows.map .str)].all (kqdOk 7)) = true
    simp only [List.all_cons, List.all_nil, kqdOk, Bool.and_true, Bool.and_eq_true, List.all_eq_true]
    refine ⟨fun x hx => ?_, fun x hx => ?_⟩
    · obtain ⟨n, hn, rfl⟩ := List.mem_map.mp hx
      have := h.1 n hn
      show ([Dat.str n.1, Dat.int n.2.1, Dat.str n.2.2].all (kqdOk 5)) = true
      simp only [List.all_cons, List.all_nil, kqdOk, Bool.and_true, Bool.true_and, Bool.and_eq_true]
      exact this
    · obtain ⟨n, hn, rfl⟩ := List.mem_map.mp hx
      exact h.2 n hn
theorem due_okR {ended : Bool} : ∀ (ls : List Str) (at_ : Int) (nms : List (Str × Int × Str)) (rem : Option (List Str)), (∀ l ∈ ls, l ∈ allMenu) → (∀ n ∈ nms, PyData.strOk n.1 = true ∧ PyData.strOk n.2.2 = true) → (∀ rs, rem = some rs → ∀ r ∈ rs, PyData.strOk r = true) → ResOk (dueGo ended ls at_ nms rem)
  | [], _, nms, rem, _, h2, h3 => ⟨h2, fun r hr => by
      cases rem with
      | none => cases hr
      | some rs => exact h3 rs rfl r hr⟩
  | l :: r, at_, nms, rem, h1, h2, h3 => by
    have hl := List.all_eq_true.mp menu_okStr l (h1 l (.head _))
    rw [Bool.and_eq_true_iff] at hl
    unfold dueGo
    split
    · exact ⟨by decide +kernel, by decide +kernel⟩
    · split
      · refine ⟨h2, fun r hr => ?_⟩
        cases rem with
        | none => cases hr
        | some rs => exact h3 rs rfl r hr
      · cases rem with
        | some rs =>
          refine due_okR r _ nms _ (fun z hz => h1 z (.tail _ hz)) h2 ?_
          intro rs' e z hz
          cases e
          rcases List.mem_append.mp hz with hz | hz
          · exact h3 rs rfl z hz
          · rw [List.mem_singleton.mp hz]; exact hl.1
        | none =>
          dsimp only
          split
          · refine due_okR r _ nms _ (fun z hz => h1 z (.tail _ hz)) h2 ?_
            intro rs' e z hz
            cases e
            cases hz
          · cases e : dueLine l with
            | error x =>
              rw [e] at hl
              obtain ⟨k, d⟩ := x
              have := hl.2
              simp only [okLine, Bool.and_eq_true] at this
              exact this
            | ok n =>
              rw [e] at hl
              obtain ⟨k, i, b⟩ := n
              have := hl.2
              simp only [okLine, Bool.and_eq_true] at this
              refine due_okR r _ _ _ (fun z hz => h1 z (.tail _ hz)) ?_ (fun rs' e => by cases e)
              intro z hz
              rcases List.mem_append.mp hz with hz | hz
              · exact h2 z hz
              · rw [List.mem_singleton.mp hz]; exact this
end Mine
end

section
open PySem PySem.W PySem.Spec PySem.Calls PyProof.Rows
namespace Mine
theorem w_off_C15 : True := by
  w_top off
  exact trivial
set_option maxRecDepth 100000
set_option maxHeartbeats 1500000

noncomputable def lettersOf (skip ended : Bool) (ls : List Str) : Str :=
  (if skip then Str.ofString "head row\n" else Str.ofString "") ++ Txt.join (Str.ofString "\n") ls ++ (if ended && !ls.isEmpty then Str.ofString "\n" else Str.ofString "")
noncomputable def ReadOk (skip : Bool) (letters : Str) (res : Res) : Prop :=
  (∀ c ∈ cds letters, c < 1114112) ∧ (cds letters).length ≤ 1000 ∧ letters.length ≤ 1000 ∧ (skip = true → 0 + (seg (cds letters) 0).length < (cds letters).length) ∧
    ∀ r, Names (cds letters) (if skip then 0 + (seg (cds letters) 0).length + 1 else 0) r → r = res

theorem body_len {ended : Bool} : ∀ (ls : List Str), (∀ y ∈ ls, GoodL y) → (bodyOf ended ls).length ≤ 31 * ls.length
  | [], _ => Nat.le_refl _
  | l :: r, h => by
    have ih := body_len (ended := ended) r fun y hy => h y (.tail _ hy)
    have hl := (h l (.head _)).short
    unfold bodyOf
    rw [List.length_append, List.length_cons]
    split
    · rw [List.length_nil]; omega
    · rw [List.length_cons]; omega
theorem body_ascii {ended : Bool} : ∀ (ls : List Str), (∀ y ∈ ls, GoodL y) → ∀ c ∈ bodyOf ended ls, c < 128
  | [], _, c, hc => by cases hc
  | l :: r, h, c, hc => by
    unfold bodyOf at hc
    rcases List.mem_append.mp hc with hc | hc
    · exact (h l (.head _)).ascii c hc
    · split at hc
      · cases hc
      · rcases List.mem_cons.mp hc with rfl | hc
        · decide
        · exact body_ascii r (fun y hy => h y (.tail _ hy)) c hc
theorem txt_join (ls : List Str) : Txt.join (Str.ofString "\n") ls = Str.join (Str.ofString "\n") ls := StrLaws.glued_eq_join _ _
theorem cds_letters (skip ended : Bool) (ls : List Str) : cds (lettersOf skip ended ls) = (if skip then cds (Str.ofString "head row\n") else []) ++ bodyOf ended ls := by
  unfold lettersOf
  rw [cds_append, cds_append, List.append_assoc, txt_join, ← body_join]
  have e1 : cds (Str.ofString "\n") = [10] := by decide +kernel
  have e2 : cds (Str.ofString "") = [] := by decide +kernel
  congr 1
  · cases skip
    · exact e2
    · rfl
  · congr 1
    cases (ended && !ls.isEmpty)
    · exact e2
    · exact e1
theorem head_cds : cds (Str.ofString "head row\n") = cds (Str.ofString "head row") ++ 10 :: [] := by decide +kernel
theorem head_len : (cds (Str.ofString "head row")).length = 8 := by decide +kernel
theorem head_no : ∀ c ∈ cds (Str.ofString "head row"), c ≠ 10 := by decide +kernel
theorem head_ascii : ∀ c ∈ cds (Str.ofString "head row\n"), c < 128 := by decide +kernel
theorem read_due {skip ended : Bool} {ls : List Str} {letters : Str} (hl : letters = lettersOf skip ended ls) (hg : ∀ y ∈ ls, GoodL y) (hn : ls.length ≤ 20) : ReadOk skip letters (dueGo ended ls (if skip then 9 else 0) [] none) := by
  subst hl
  have e := cds_letters skip ended ls
  have b1 := body_len (ended := ended) ls hg
  have b2 := body_ascii (ended := ended) ls hg
  have h9 : (cds (Str.ofString "head row\n")).length = 9 := by decide +kernel
  have hlen : (cds (lettersOf skip ended ls)).length ≤ 1000 := by
    rw [e, List.length_append]
    cases skip
    · simp only [Bool.false_eq_true, if_false, List.length_nil]; omega
    · simp only [if_true]; omega
  refine ⟨fun c hc => ?_, hlen, by rw [← len_cds]; exact hlen, ?_, ?_⟩
  · rw [e] at hc
    rcases List.mem_append.mp hc with hc | hc
    · cases skip
      · cases hc
      · have := head_ascii c hc; omega
    · have := b2 c hc; omega
  · intro hs
    subst hs
    rw [e, if_pos rfl, head_cds, List.append_assoc]
    have d0 : (cds (Str.ofString "head row") ++ (10 :: [] ++ bodyOf ended ls)).drop 0 = cds (Str.ofString "head row") ++ 10 :: bodyOf ended ls := rfl
    rw [seg_row head_no d0]
    exact at_lt d0
  · intro r hN
    rw [e] at hN
    cases skip with
    | false =>
      simp only [Bool.false_eq_true, if_false, List.nil_append] at hN ⊢
      exact (names_due ls 0 r hg (Nat.zero_le _) rfl hN).symm
    | true =>
      rw [if_pos rfl, if_pos rfl, head_cds, List.append_assoc] at hN
      have d0 : (cds (Str.ofString "head row") ++ (10 :: [] ++ bodyOf ended ls)).drop 0 = cds (Str.ofString "head row") ++ 10 :: bodyOf ended ls := rfl
      rw [seg_row head_no d0] at hN
      have := names_due ls _ r hg (by have := at_lt d0; omega) (at_next d0) hN
      rw [head_len] at this
      exact this.symm

section
variable {s e : Bool} {ls : List Str}
theorem let1 (hs : s = true) (he : e = true) (hn : (!ls.isEmpty) = true) : Str.ofString "head row\n" ++ Txt.join (Str.ofString "\n") ls ++ Str.ofString "\n" = lettersOf s e ls := by
  subst hs he; unfold lettersOf; rw [hn]; rfl
theorem let2 (hs : s = true) (hn : (!ls.isEmpty) = false) : Str.ofString "head row\n" ++ Txt.join (Str.ofString "\n") ls ++ Str.ofString "" = lettersOf s e ls := by
  subst hs; unfold lettersOf; rw [hn, Bool.and_false]; rfl
theorem let3 (hs : s = true) (he : e = false) : Str.ofString "head row\n" ++ Txt.join (Str.ofString "\n") ls ++ Str.ofString "" = lettersOf s e ls := by
  subst hs he; unfold lettersOf; rfl
theorem let4 (hs : s = false) (he : e = true) (hn : (!ls.isEmpty) = true) : Str.ofString "" ++ Txt.join (Str.ofString "\n") ls ++ Str.ofString "\n" = lettersOf s e ls := by
  subst hs he; unfold lettersOf; rw [hn]; rfl
theorem let5 (hs : s = false) (hn : (!ls.isEmpty) = false) : Str.ofString "" ++ Txt.join (Str.ofString "\n") ls ++ Str.ofString "" = lettersOf s e ls := by
  subst hs; unfold lettersOf; rw [hn, Bool.and_false]; rfl
theorem let6 (hs : s = false) (he : e = false) : Str.ofString "" ++ Txt.join (Str.ofString "\n") ls ++ Str.ofString "" = lettersOf s e ls := by
  subst hs he; unfold lettersOf; rfl
theorem join_w (hg : ∀ y ∈ ls, GoodL y) (hn : ls.length ≤ 20) : (ls.map (·.length)).sum + ls.length ≤ 1048576 := by
  have : ∀ l : List Str, (∀ y ∈ l, GoodL y) → (l.map (·.length)).sum ≤ 30 * l.length := by
    intro l
    induction l with
    | nil => intro _; exact Nat.le_refl _
    | cons a l ih =>
      intro h
      have h1 := ih fun y hy => h y (.tail _ hy)
      have h2 := (h a (.head _)).short
      rw [len_cds] at h2
      simp only [List.map_cons, List.sum_cons, List.length_cons]
      omega
  have := this ls hg
  omega
theorem join_len (hg : ∀ y ∈ ls, GoodL y) (hn : ls.length ≤ 20) : (Txt.join (Str.ofString "\n") ls).length ≤ 700 := by
  have b1 := body_len (ended := false) ls hg
  rw [← body_join] at b1
  simp only [Bool.false_and, Bool.false_eq_true, if_false, List.append_nil] at b1
  rw [← txt_join, len_cds] at b1
  omega
end

theorem lr_ok2 {w : World} {dp un : Nat} {gd : Option (List Code)} {cn : Str} {cs : Scope} {a : Addr} {ccd : Value} {cl : List (Str × Addr)} {A₀ : Around} {base h₀ : Heap} {L : Addr} {m : Str → Option Value} {s : Shared} {Q E : Value → Shared → Prop} {mean : ExcName → Option Value} {mg mb : Str → Option Value}
    {letters : Str} {tk0 : Tok} {skip : Bool} {rest : List (Addr × Obj)} {res : Res}
    (B : Below A₀ base [] h₀) (F : Fr h₀ L s.heap m) (X : (hd.heap_39 w.params).In h₀) (N : News h₀ L s.heap rest)
    (T : Top hd.view_39 (looseW hd.view_39 LS) mean mg mb h₀) (hk : cs.kind = .function)
    (hR : ReadOk skip letters res)
    (XB : (hd.heap_39 w.params).In base) (TB : Top hd.view_39 (looseW hd.view_39 LS) mean mg mb base)
    (hdp : dp + 80 < recursionLimit) (hu : un + 800 < cLine)
    (ret : ∀ (v : Value) (tl : List (Addr × Obj)) (h' : Heap) (tk' : Nat), DatIn tl v (resDat res) → Fr h₀ L h' m → News h₀ L h' (tl ++ rest) → Q v { s with heap := h', toks := tk' }) :
    wpAny (model Challenge.rw_on0091_01.row.prog w) (ktrTop dp un gd cn cs L a ccd cl []) (call (.ref 143) [.str letters tk0, .bool skip]) Q E s := by
  obtain ⟨h1, h2, h3, h4, h5⟩ := hR
  refine lr_ok B F X N T hk rfl h1 h2 h3 h4 XB TB hdp hu fun r v tl h' tk' hN hD F' N' => ?_
  rw [h5 r hN] at hD
  exact ret v tl h' tk' hD F' N'

/-! ## the three fixed texts -/
theorem good_b {ls : List Str} (h : ls.all GoodB = true) : ∀ y ∈ ls, GoodL y := fun y hy => by
  have g := List.all_eq_true.mp h y hy
  simp only [GoodB, Bool.and_eq_true, List.all_eq_true, decide_eq_true_eq] at g
  exact ⟨fun c hc => (g.1.1 c hc).1, fun c hc => (g.1.1 c hc).2, g.1.2, sameOut_eq g.2⟩
noncomputable def sameRes : Res → Res → Bool
  | .ok a b, .ok c d => a == c && b == d
  | .err k a d, .err k' a' d' => k == k' && a == a' && d == d'
  | _, _ => false
theorem sameRes_eq {a b : Res} (h : sameRes a b = true) : a = b := by
  cases a <;> cases b <;> simp only [sameRes, Bool.and_eq_true] at h
  · rw [eq_of_beq h.1, eq_of_beq h.2]
  · cases h
  · cases h
  · rw [eq_of_beq h.1.1, eq_of_beq h.1.2, eq_of_beq h.2]
theorem read_fix {letters : Str} {ls : List Str} {res : Res} (hl : letters = lettersOf false true ls) (hg : ls.all GoodB = true) (hn : ls.length ≤ 20) (hd : dueGo true ls 0 [] none = res) : ReadOk false letters res := by
  subst hd
  exact read_due (skip := false) hl (good_b hg) hn
theorem fix1 : ReadOk false (Str.ofString "o1 x\ni0\n") (.err (Str.ofString "bad_row") 5 (Str.ofString "")) :=
  read_fix (ls := [Str.ofString "o1 x", Str.ofString "i0"]) (by decide +kernel) (by decide +kernel) (by decide) (sameRes_eq (by decide +kernel))
theorem fix2 : ReadOk false (Str.ofString "") (.ok [] []) :=
  read_fix (ls := []) (by decide +kernel) (by decide +kernel) (by decide) (sameRes_eq (by decide +kernel))
theorem fix3 : ReadOk false (Str.ofString "i1 b\nc\n\nlast\n") (.ok [(Str.ofString "i", 1, Str.ofString "b")] [Str.ofString "", Str.ofString "last"]) :=
  read_fix (ls := [Str.ofString "i1 b", Str.ofString "c", Str.ofString "", Str.ofString "last"]) (by decide +kernel) (by decide +kernel) (by decide) (sameRes_eq (by decide +kernel))
end Mine
end

section
open PySem PySem.W PySem.Spec PySem.Calls PyProof.Rows
namespace Mine
theorem w_off_C16 : True := by
  w_top off
  exact trivial
set_option maxRecDepth 100000
set_option maxHeartbeats 1500000

theorem law_mid_go {prog : Program} {w : World} {A : Around} {E : Value → Shared → Prop} {env : Env} {sts : List Stmt} {Q : Flow → Shared → Prop} {h₀ : Heap} {L : Addr} {m : Str → Option Value} {s s₂ : Shared} {jar l : Addr} {ol : Obj} {rest : List (Addr × Obj)}
    (M : LawMid h₀ L m s jar l ol rest s₂)
    (h : ∀ h tk x c tx tb nj lines lv ls nl, 0 ≤ x → x < 2 ^ 300 → 0 ≤ c → c ≤ 60 → StrsAre lv ls → ls.length ≤ 20 → (∀ y ∈ ls, y ∈ allMenu) →
      Fr h₀ L h (fun z => if z = Str.ofString "lines" then some (.ref lines) else m z) → @Ne Nat jar lines → @Ne Nat l lines → (∀ p ∈ rest, p.1 ≠ lines) →
      News h₀ L h ((jar, jarO x c tx tb l nj) :: (l, ol) :: (lines, listOf lv.toArray nl) :: rest) →
      wpAny (model prog w) A (execs sts env) Q E { s with heap := h, toks := tk }) :
    wpAny (model prog w) A (execs sts env) Q E s₂ := by
  obtain ⟨h', tk, x, c, tx, tb, nj, lines, lv, ls, nl, m', rfl, h0, h1, h2, h3, hS, h4, h5, F, hl, hz, h6, N⟩ := M
  have e : m' = fun z => if z = Str.ofString "lines" then some (.ref lines) else m z := by
    funext z
    by_cases q : z = Str.ofString "lines"
    · rw [if_pos q, q, hl]
    · rw [if_neg q, hz z q]
  subst e
  have q := List.forall_mem_cons.mp h6
  have q2 := List.forall_mem_cons.mp q.2
  exact h h' tk x c tx tb nj lines lv ls nl h0 h1 h2 h3 hS h4 h5 F (Nat.ne_of_lt q.1) (Nat.ne_of_lt q2.1) (fun p hp => Nat.ne_of_lt (q2.2 p hp)) N

theorem res_ref {tl : List (Addr × Obj)} {v : Value} {res : Res} (h : DatIn tl v (resDat res)) : ∃ D, v = .ref D := by
  cases res with
  | ok a b => cases h with | tuple m r => exact ⟨_, rfl⟩
  | err a b c => cases h with | tuple m r => exact ⟨_, rfl⟩

theorem lr_ok3 {w : World} {dp un : Nat} {gd : Option (List Code)} {cn : Str} {cs : Scope} {a : Addr} {ccd : Value} {cl : List (Str × Addr)} {A₀ : Around} {base h₀ : Heap} {L : Addr} {m : Str → Option Value} {s : Shared} {Q E : Value → Shared → Prop} {mean : ExcName → Option Value} {mg mb : Str → Option Value}
    {letters : Str} {tk0 : Tok} {skip : Bool} {rest : List (Addr × Obj)} {res : Res}
    (B : Below A₀ base [] h₀) (F : Fr h₀ L s.heap m) (X : (hd.heap_39 w.params).In h₀) (N : News h₀ L s.heap rest)
    (T : Top hd.view_39 (looseW hd.view_39 LS) mean mg mb h₀) (hk : cs.kind = .function)
    (hR : ReadOk skip letters res)
    (XB : (hd.heap_39 w.params).In base) (TB : Top hd.view_39 (looseW hd.view_39 LS) mean mg mb base)
    (hdp : dp + 80 < recursionLimit) (hu : un + 800 < cLine)
    (ret : ∀ (D : Addr) (tl : List (Addr × Obj)) (h' : Heap) (tk' : Nat), DatIn tl (.ref D) (resDat res) → Fr h₀ L h' m → News h₀ L h' (tl ++ rest) → Q (.ref D) { s with heap := h', toks := tk' }) :
    wpAny (model Challenge.rw_on0091_01.row.prog w) (ktrTop dp un gd cn cs L a ccd cl []) (call (.ref 143) [.str letters tk0, .bool skip]) Q E s :=
  lr_ok2 B F X N T hk hR XB TB hdp hu fun v tl h' tk' hD F' N' => by
    obtain ⟨D, rfl⟩ := res_ref hD
    exact ret D tl h' tk' hD F' N'

theorem du_ok3 {w : World} {dp un : Nat} {gd : Option (List Code)} {cn : Str} {cs : Scope} {a : Addr} {ccd : Value} {cl : List (Str × Addr)} {outer : List Env} {A₀ : Around} {base h₀ : Heap} {L : Addr} {m : Str → Option Value} {s : Shared} {Q E : Value → Shared → Prop} {mean : ExcName → Option Value} {mg mb : Str → Option Value}
    {ll : Addr} {lv : List Value} {nl : Nat} {ls : List Str} {ended : Bool} {start : Int} {ts : Tok} {nn : List (Addr × Obj)}
    (B : Below A₀ base outer h₀) (F : Fr h₀ L s.heap m) (X : (hd.heap_39 w.params).In h₀) (N : News h₀ L s.heap nn) (ml : (ll, listOf lv.toArray nl) ∈ nn)
    (T : Top hd.view_39 (looseW hd.view_39 LS) mean mg mb h₀) (hk : cs.kind = .function)
    (hS : StrsAre lv ls) (hn1 : ls.length ≤ 20) (hg : ∀ l ∈ ls, GoodL l)
    (hdp : dp + 40 < recursionLimit) (hu : un + 400 < cLine)
    (ret : ∀ (D : Addr) (tl : List (Addr × Obj)) (h' : Heap) (tk' : Nat), DatIn tl (.ref D) (resDat (dueGo ended ls start [] none)) → Fr h₀ L h' m → News h₀ L h' (tl ++ nn) → Q (.ref D) { s with heap := h', toks := tk' }) :
    wpAny (model Challenge.rw_on0091_01.row.prog w) (ktrTop dp un gd cn cs L a ccd cl outer) (call (.ref 157) [.ref ll, .bool ended, .int start ts]) Q E s := by
  have N1 : News h₀ L s.heap ((ll, listOf lv.toArray nl) :: nn.filter (fun p => decide (@Ne Nat p.1 ll))) := fun p hp => by
    rcases List.mem_cons.mp hp with rfl | hp
    · exact N _ ml
    · exact N _ (List.mem_filter.mp hp).1
  have hsub : ∀ p ∈ nn, p ∈ (ll, listOf lv.toArray nl) :: nn.filter (fun p => decide (@Ne Nat p.1 ll)) := fun p hp => by
    by_cases e : p.1 = ll
    · have g1 := (N _ hp).1
      have g2 := (N _ ml).1
      rw [e] at g1
      have g3 : p.2 = listOf lv.toArray nl := Option.some.inj (g1.symm.trans g2)
      refine List.mem_cons.mpr (.inl ?_)
      rw [← e, ← g3]
    · exact List.mem_cons.mpr (.inr (List.mem_filter.mpr ⟨hp, decide_eq_true e⟩))
  refine du_ok B F X N1 T hk hS hn1 (fun l hl => ?_) (fun p hp => of_decide_eq_true (List.mem_filter.mp hp).2) hdp hu fun v tl h' tk' hD F' N' => ?_
  · have := (hg l hl).short
    rw [len_cds] at this
    omega
  · obtain ⟨D, rfl⟩ := res_ref hD
    refine ret D tl h' tk' hD F' fun p hp => ?_
    rcases List.mem_append.mp hp with hp | hp
    · exact N' _ (List.mem_append.mpr (.inl hp))
    · exact N' _ (List.mem_append.mpr (.inr (hsub p hp)))

theorem sub_l {α : Type} {a b : List α} : ∀ p ∈ a, p ∈ a ++ b := fun _ h => List.mem_append.mpr (.inl h)
theorem sub_r {α : Type} {a b c : List α} (h : ∀ p ∈ a, p ∈ c) : ∀ p ∈ a, p ∈ b ++ c := fun p q => List.mem_append.mpr (.inr (h p q))
theorem sub_c {α : Type} {a c : List α} {x : α} (h : ∀ p ∈ a, p ∈ c) : ∀ p ∈ a, p ∈ x :: c := fun p q => List.mem_cons.mpr (.inr (h p q))
end Mine
end

section
open PySem PySem.W PySem.Spec PySem.Calls PyProof.Rows
namespace Mine
theorem w_off_C18 : True := by
  w_top off
  exact trivial
set_option maxRecDepth 100000
set_option maxHeartbeats 1500000

theorem take_pos (ns : List Int) : 0 < (List.take 40 (ns ++ [0])).length := by
  rw [List.length_take, List.length_append, List.length_singleton]; omega
theorem take_le (ns : List Int) : (List.take 40 (ns ++ [0])).length ≤ 40 := by
  rw [List.length_take]; omega

section
variable {ls : List Str}
theorem due_cmp {e : Bool} {a : Int} (hm : ∀ y ∈ ls, y ∈ allMenu) : kqdOk 8 (resDat (dueGo e ls a [] none)) = true :=
  res_ok (due_okR ls a [] none hm (fun _ h => by cases h) (fun _ h => by cases h))
end
/-! ## the letters, by their head -/
noncomputable def headOf (sk : Bool) : Str := if sk then Str.ofString "head row\n" else Str.ofString ""
noncomputable def lettersBy (hd : Str) (e : Bool) (ls : List Str) : Str := hd ++ Txt.join (Str.ofString "\n") ls ++ (if e && !ls.isEmpty then Str.ofString "\n" else Str.ofString "")
theorem letters_by (sk e : Bool) (ls : List Str) : lettersBy (headOf sk) e ls = lettersOf sk e ls := rfl
noncomputable def HeadIs (sk : Bool) (v : Value) : Prop := ∃ hd t, v = .str hd t ∧ hd = headOf sk ∧ hd.length ≤ 9
noncomputable def LettersAre (hd : Str) (e : Bool) (ls : List Str) (v : Value) : Prop := ∃ tx t, v = .str tx t ∧ tx = lettersBy hd e ls
noncomputable def SomeBool (v : Value) : Prop := ∃ b : Bool, v = .bool b
theorem head_is1 {r : Int} {t : Tok} (h : r = 0) : HeadIs (r == 0) (.str (Str.ofString "head row\n") t) :=
  ⟨_, t, rfl, by rw [h]; rfl, by decide +kernel⟩
theorem head_is2 {r : Int} {t : Tok} (h : ¬ r = 0) : HeadIs (r == 0) (.str (Str.ofString "") t) :=
  ⟨_, t, rfl, by rw [beq_eq_false_iff_ne.mpr h]; rfl, by decide +kernel⟩
section
variable {hd : Str} {e : Bool} {ls : List Str} {t : Tok}
theorem letters_are1 (he : e = true) (hn : ls.isEmpty = false) : LettersAre hd e ls (.str (hd ++ Txt.join (Str.ofString "\n") ls ++ Str.ofString "\n") t) :=
  ⟨_, t, rfl, by unfold lettersBy; rw [he, hn]; rfl⟩
theorem letters_are2 (hn : ls.isEmpty = true) : LettersAre hd e ls (.str (hd ++ Txt.join (Str.ofString "\n") ls ++ Str.ofString "") t) :=
  ⟨_, t, rfl, by unfold lettersBy; rw [hn, Bool.not_true, Bool.and_false]; rfl⟩
theorem letters_are3 (he : e = false) : LettersAre hd e ls (.str (hd ++ Txt.join (Str.ofString "\n") ls ++ Str.ofString "") t) :=
  ⟨_, t, rfl, by unfold lettersBy; rw [he]; rfl⟩
end
theorem read_by {sk e : Bool} {hd tx : Str} {ls : List Str} (h1 : hd = headOf sk) (h2 : tx = lettersBy hd e ls) (hg : ∀ y ∈ ls, GoodL y) (hl : ls.length ≤ 20) :
    ReadOk sk tx (dueGo e ls (if sk then 9 else 0) [] none) := by
  subst h1
  exact read_due h2 hg hl
theorem due_by {sk e : Bool} {hd : Str} {ls : List Str} (h1 : hd = headOf sk) : resDat (dueGo e ls (if sk then 9 else 0) [] none) = resDat (dueGo e ls ((hd.length : Nat) : Int) [] none) := by
  subst h1
  have e1 : (Str.ofString "head row\n").length = 9 := by decide +kernel
  have e0 : (Str.ofString "").length = 0 := by decide +kernel
  cases sk
  · show resDat (dueGo e ls 0 [] none) = resDat (dueGo e ls (((Str.ofString "").length : Nat) : Int) [] none)
    rw [e0]; rfl
  · show resDat (dueGo e ls 9 [] none) = resDat (dueGo e ls (((Str.ofString "head row\n").length : Nat) : Int) [] none)
    rw [e1]; rfl

/-! ## the comparisons with the fixed answers -/
theorem fix_ne {prog : Program} {w : World} {A : Around} {E : Value → Shared → Prop} {s : Shared} {h₀ : Heap} {L T : Addr} {a : Value} {n₁ nn : List (Addr × Obj)} {Q : Value → Shared → Prop} {k d : Str} {i : Int} {t1 t2 t3 : Tok}
    (N : News h₀ L s.heap nn) (Da : DatIn n₁ a (resDat (.err k i d))) (sa : ∀ p ∈ n₁, p ∈ nn) (m : (T, ({ cls := .type "tuple", data := .seq #[.str k t1, .int i t2, .str d t3] } : Obj)) ∈ nn)
    (ok : kqdOk 8 (resDat (.err k i d)) = true) (hu : A.units + 64 < cLine) (h : Q (.bool false) s) : wpAny (model prog w) A (compareOp .NotEq a (.ref T)) Q E s :=
  dat_ne N Da sa err_dat (fun p hp => by rw [List.mem_singleton.mp hp]; exact m) ok ok hu rfl h
noncomputable abbrev tupO (vs : List Value) : Obj := { cls := .type "tuple", data := .seq vs.toArray }
theorem fix_ne2 {prog : Program} {w : World} {A : Around} {E : Value → Shared → Prop} {s : Shared} {h₀ : Heap} {L T x y : Addr} {a : Value} {n₁ nn : List (Addr × Obj)} {Q : Value → Shared → Prop}
    (N : News h₀ L s.heap nn) (Da : DatIn n₁ a (resDat (.ok [] []))) (sa : ∀ p ∈ n₁, p ∈ nn) (m1 : (T, tupO [.ref x, .ref y]) ∈ nn) (m2 : (x, tupO []) ∈ nn) (m3 : (y, tupO []) ∈ nn)
    (hu : A.units + 64 < cLine) (h : Q (.bool false) s) : wpAny (model prog w) A (compareOp .NotEq a (.ref T)) Q E s :=
  dat_ne N Da sa (e := resDat (.ok [] [])) (.tuple m1 (.cons (.tuple m2 .nil) (.cons (.tuple m3 .nil) .nil))) (fun _ hp => hp) (by decide +kernel) (by decide +kernel) hu rfl h
theorem fix_eq3 {prog : Program} {w : World} {A : Around} {E : Value → Shared → Prop} {s : Shared} {h₀ : Heap} {L T x y z : Addr} {a : Value} {n₁ nn : List (Addr × Obj)} {Q : Value → Shared → Prop} {k b r1 r2 : Str} {i : Int} {t1 t2 t3 t4 t5 : Tok}
    (N : News h₀ L s.heap nn) (Da : DatIn n₁ a (resDat (.ok [(k, i, b)] [r1, r2]))) (sa : ∀ p ∈ n₁, p ∈ nn) (m1 : (T, tupO [.ref x, .ref y]) ∈ nn) (m2 : (x, tupO [.ref z]) ∈ nn) (m3 : (z, tupO [.str k t1, .int i t2, .str b t3]) ∈ nn) (m4 : (y, tupO [.str r1 t4, .str r2 t5]) ∈ nn)
    (ok : kqdOk 8 (resDat (.ok [(k, i, b)] [r1, r2])) = true) (hu : A.units + 64 < cLine) (h : Q (.bool true) s) : wpAny (model prog w) A (compareOp .Eq a (.ref T)) Q E s :=
  dat_eq N Da sa (e := resDat (.ok [(k, i, b)] [r1, r2])) (.tuple m1 (.cons (.tuple m2 (.cons (.tuple m3 (.cons (.str _ _) (.cons (.int _ _) (.cons (.str _ _) .nil)))) .nil)) (.cons (.tuple m4 (.cons (.str _ _) (.cons (.str _ _) .nil))) .nil))) (fun _ hp => hp) ok ok hu rfl h
end Mine
end

section
open PySem PySem.W PySem.Spec PySem.Calls PyProof.Rows
namespace Mine
theorem w_off_L2 : True := by
  w_top off
  exact trivial
set_option maxRecDepth 100000
set_option maxHeartbeats 4000000
set_option pp.deepTerms.threshold 5
set_option pp.maxSteps 4000
set_option pp.oneline false
set_option pp.deepTerms false
theorem nw_j1 {h₀ h : Heap} {L : Addr} {x j l : Addr × Obj} {rest : List (Addr × Obj)} (N : News h₀ L h (x :: j :: l :: rest)) : News h₀ L h (j :: l :: x :: rest) := fun p hp => N p (by
  simp only [List.mem_cons] at hp ⊢
  rcases hp with h | h | h | h <;> simp [h])
theorem nw_j2 {h₀ h : Heap} {L : Addr} {x y j l : Addr × Obj} {rest : List (Addr × Obj)} (N : News h₀ L h (x :: y :: j :: l :: rest)) : News h₀ L h (j :: l :: x :: y :: rest) := fun p hp => N p (by
  simp only [List.mem_cons] at hp ⊢
  rcases hp with h | h | h | h | h <;> simp [h])
noncomputable def Hold (p : Prop) : Prop := p
theorem Hold.get {p : Prop} (h : Hold p) : p := h


noncomputable abbrev headP {r : Int} (_ : r < 2) : Value → Prop := HeadIs (r == 0)
theorem law_holds : PySem.Challenge.rw_on0091_01.Holds := hd (by
  k_with_none
  (k_with "w k_ne" => (refine neN ?_; (try dsimp only); with_reducible first | assumption | exact Ne.symm (by assumption) | exact Nat.ne_of_gt (by first | assumption | exact cj1 (by assumption) | exact ej2 (by assumption) | exact cj2 (by assumption) | exact ej3 (by assumption) | exact cj3 (by assumption) | exact ej4 (by assumption) | exact cj4 (by assumption) | exact ej5 (by assumption) | exact cj5 (by assumption) | exact ej6 (by assumption) | exact cj6 (by assumption) | exact ej7 (by assumption) | exact cj7 (by assumption) | exact ej8 (by assumption) | exact cj8 (by assumption) | exact ej9 (by assumption) | exact cj9 (by assumption) | exact ej10 (by assumption) | exact cj10 (by assumption) | exact ej11 (by assumption)) | exact Nat.ne_of_lt (by first | assumption | exact cj1 (by assumption) | exact ej2 (by assumption) | exact cj2 (by assumption) | exact ej3 (by assumption) | exact cj3 (by assumption) | exact ej4 (by assumption) | exact cj4 (by assumption) | exact ej5 (by assumption) | exact cj5 (by assumption) | exact ej6 (by assumption) | exact cj6 (by assumption) | exact ej7 (by assumption) | exact cj7 (by assumption) | exact ej8 (by assumption) | exact cj8 (by assumption) | exact ej9 (by assumption) | exact cj9 (by assumption) | exact ej10 (by assumption) | exact cj10 (by assumption) | exact ej11 (by assumption))))
  (k_with "w lt" => ((try dsimp only); with_reducible first | assumption | exact cj1 (by assumption) | exact ej2 (by assumption) | exact cj2 (by assumption) | exact ej3 (by assumption) | exact cj3 (by assumption) | exact ej4 (by assumption) | exact cj4 (by assumption) | exact ej5 (by assumption) | exact cj5 (by assumption) | exact ej6 (by assumption) | exact cj6 (by assumption) | exact ej7 (by assumption) | exact cj7 (by assumption) | exact ej8 (by assumption) | exact cj8 (by assumption) | exact ej9 (by assumption) | exact cj9 (by assumption) | exact ej10 (by assumption) | exact cj10 (by assumption) | exact ej11 (by assumption)))
  (k_with "w room" => first | exact Nat.le_of_ble_eq_true rfl | exact room0 (by assumption) rfl | exact room1 (by assumption) rfl | exact room2 (by assumption) rfl)
  (k_with "w size" => first | exact Nat.le_of_ble_eq_true rfl | exact Nat.le_trans (by with_reducible assumption) (Nat.le_of_ble_eq_true rfl))
  (k_with "w k_all" => with_reducible assumption)
  (k_with "w k_all" => exact allLt_ne (by first | with_reducible assumption | tbn_find))
  (k_with "w call ref" => (k_here; (first | (with_reducible show wpAny _ _ (call (Value.ref 143) _) _ _ _) | (with_reducible show wpAny _ _ (call (Value.ref 157) _) _ _ _)); refine Hold.get ?_))
  (k_with "w call ref" => (k_here; k_dflt (first | ((with_reducible show wpAny _ _ (call (Value.ref 131) _) _ _ _); refine draw_ok (by k_asm) (by k_asm) (by k_asm) (by first | with_reducible assumption | exact nw_j1 (by with_reducible assumption) | exact nw_j2 (by with_reducible assumption)) (by k_asm) (by first | exact rfl | assumption) (by k_ne) (by k_all) (by with_reducible assumption) (by exact take_pos _) (by exact take_le _) (by first | decide | with_reducible assumption) (by first | decide | with_reducible assumption) (by first | decide | omega) (by first | decide | omega) (by decide) (by decide) (by ktr_room) (by ktr_units) ?_) | ((with_reducible show wpAny _ _ (call (Value.ref 138) _) _ _ _); refine ll_ok (by k_asm) (by k_asm) (by k_asm) (by k_asm) (by k_asm) (by first | exact rfl | assumption) (by ktr_room) (by ktr_units) ?_; intro Dww lvww nlww hww tkww hMww Fww Nww l1ww; (try k_lt l1ww)))))
  (k_with "w exec For Name Call cons nil" => (k_here; (rename Fr _ _ _ _ => lFww); (with_unfolding_all refine For_invVF lFww (by exact rfl) (by exact rfl) ?_; k_whole)))
  (k_with "w pyIter ref" => ((with_reducible show wpAny _ _ (pyIter (Value.ref _)) (fun it s₂ => LoopAtV _ _ _ _ _ _ _ _ _ it s₂) _ _); k_here; refine Hold.get ?_))
  (k_with "w subscriptTail" => (k_here; (with_reducible show wpAny _ _ (subscriptTail _ _ (Value.ref _) (Value.int _ _)) _ _ _); k_dflt (refine item_menu (ys := menu) (by is_list) (by with_reducible assumption) (by omega) (by (show _ < ((20 : Nat) : Int); omega)) (by omega) ?_; intro yww tyww hyww)))
  (k_with "w subscriptTail" => (k_here; (with_reducible show wpAny _ _ (subscriptTail (PySem.Expr.BinOp _ _ _ _) _ _ _) _ _ _); k_dflt (refine kba_turn (value' := PySem.Expr.Name (PySem.Str.ofString "_") ⟨0, 0, 0, 0⟩) (fun _ => rfl) ?_)))
  (k_with "w call type:range" => (k_here; (rename Fr _ _ _ _ => Fww); (rename News _ _ _ _ => Nww); (with_unfolding_all refine range1_rows Fww Nww ?_; intro _ _ _ _ _ _ _ _ _)))
  (k_with "w eval ListComp" => (k_here; k_dflt (refine LCg.ListComp_U (F₀ := by k_asm) (by with_unfolding_all rfl) (by decide) (by rfl) (by decide) (by rfl) ?_)))
  (k_with "w CompSrc" => (k_here; refine Hold.get ?_))
  (k_with "w subscriptTail" => (k_here; (with_reducible show wpAny _ _ (subscriptTail _ _ (Value.ref _) (Value.int _ _)) _ _ _); (goal_has RemStep); k_dflt (refine item_rem (by is_list) (by (unfold remMenu; repeat' (first | exact StrsAre.nil | refine StrsAre.cons _ _ ?_))) (by with_reducible assumption) (by with_reducible assumption) ?_; intro yww tyww hyww)))
  (k_with "w binaryOp Add ref ref" => (k_here; (with_reducible show wpAny _ _ (binaryOp _ (Value.ref _) (Value.ref _)) _ _ _); k_dflt (refine add_strs (by k_asm) (by k_asm) (by kmk_list) (by kmk_list) (by with_reducible assumption) (by first | with_reducible assumption | exact StrsAre.cons _ _ .nil) (by (simp only [List.length_append, List.length_singleton]; omega)) ?_); intro Dww usww hww hSww Fww Nww l1ww; (try k_lt l1ww); (try k_sweep)))
  (k_with "w call builtin:str.join" => (k_here; (with_reducible show wpAny _ _ (call (Value.builtin _) [Value.str _ _, Value.ref _]) _ _ _); k_dflt (refine join_listW (by is_list) (by assumption) (by decide +kernel) (by with_reducible assumption) ?_); intro _ _))
  (k_with "w call ref" => (k_here; (with_reducible show wpAny _ _ (call (Value.ref 143) _) _ _ _); k_dflt (refine lr_ok3 (by k_asm) (by k_asm) (by k_asm) (by k_asm) (by k_asm) (by first | exact rfl | assumption) (by first | with_reducible exact fix1 | with_reducible exact fix2 | with_reducible exact fix3 | with_reducible exact read_by (by assumption) (by assumption) (by assumption) (by assumption)) (by k_asm) (by k_asm) (by ktr_room) (by ktr_units) ?_); intro Dww tlww hww tkww hDww Fww Nww))
  (k_with "w call ref" => (k_here; (with_reducible show wpAny _ _ (call (Value.ref 157) _) _ _ _); k_dflt (refine du_ok3 (by k_asm) (by k_asm) (by k_asm) (by k_asm) (by repeat' (first | exact List.Mem.head _ | apply List.Mem.tail | apply List.mem_append_right)) (by k_asm) (by first | exact rfl | assumption) (by with_reducible assumption) (by with_reducible assumption) (by with_reducible assumption) (by ktr_room) (by ktr_units) ?_); intro Dww tlww hww tkww hDww Fww Nww))
  (k_with "w compareOp NotEq ref ref" => (k_here; (with_reducible show wpAny _ _ (compareOp CmpOp.NotEq (Value.ref _) (Value.ref _)) _ _ _); refine Hold.get ?_))
  (k_with "w compareOp NotEq ref ref" => (k_here; (with_reducible show wpAny _ _ (compareOp CmpOp.NotEq (Value.ref _) (Value.ref _)) _ _ _); k_dflt (refine dat_ne (by k_asm) (by with_reducible assumption) (by (repeat' (first | exact sub_l | refine sub_c ?_ | refine sub_r ?_))) (by with_reducible assumption) (by (repeat' (first | exact sub_l | refine sub_c ?_ | refine sub_r ?_))) (by exact due_cmp (by with_reducible assumption)) (by exact due_cmp (by with_reducible assumption)) (by ktr_units) (by exact due_by (by assumption)) ?_; k_whole)))
  (k_with "w compareOp NotEq ref ref" => (k_here; (with_reducible show wpAny _ _ (compareOp CmpOp.NotEq (Value.ref _) (Value.ref _)) _ _ _); k_dflt (refine fix_ne2 (by k_asm) (by with_reducible assumption) (by (repeat' (first | exact sub_l | refine sub_c ?_ | refine sub_r ?_))) (by exact List.Mem.head _) (by (repeat' (first | exact List.Mem.head _ | apply List.Mem.tail))) (by (repeat' (first | exact List.Mem.head _ | apply List.Mem.tail))) (by ktr_units) ?_; k_whole)))
  (k_with "w compareOp NotEq ref ref" => (k_here; (with_reducible show wpAny _ _ (compareOp CmpOp.NotEq (Value.ref _) (Value.ref _)) _ _ _); k_dflt (refine fix_ne (by k_asm) (by with_reducible assumption) (by (repeat' (first | exact sub_l | refine sub_c ?_ | refine sub_r ?_))) (by exact List.Mem.head _) (by decide +kernel) (by ktr_units) ?_; k_whole)))
  (k_with "w compareOp NotEq ref ref" => (k_here; (with_reducible show wpAny _ _ (compareOp CmpOp.NotEq (Value.ref _) (Value.ref _)) _ _ _); k_dflt (refine ne_nil (by k_asm) (by k_mem) (by k_mem) (by with_reducible assumption) (by with_reducible assumption) (by ke_room) ?_; k_whole)))
  (k_with "w compareOp Eq ref ref" => (k_here; (with_reducible show wpAny _ _ (compareOp CmpOp.Eq (Value.ref _) (Value.ref _)) _ _ _); refine Hold.get ?_))
  (k_with "w compareOp Eq ref ref" => (k_here; (with_reducible show wpAny _ _ (compareOp CmpOp.Eq (Value.ref _) (Value.ref _)) _ _ _); k_dflt (refine fix_eq3 (by k_asm) (by with_reducible assumption) (by (repeat' (first | exact sub_l | refine sub_c ?_ | refine sub_r ?_))) (by exact List.Mem.head _) (by (repeat' (first | exact List.Mem.head _ | apply List.Mem.tail))) (by (repeat' (first | exact List.Mem.head _ | apply List.Mem.tail))) (by (repeat' (first | exact List.Mem.head _ | apply List.Mem.tail))) (by decide +kernel) (by ktr_units) ?_; k_whole)))
  k_go0
  all_goals try k_fold
  k_steps
  refine Hold.get (p := wpAny _ _ _ _ _ _) ?_
  refine' law_loop ?kL ?k3 ?k0 ?k1 ?kF ?k4 ?k5 ?k6 ?k7 ?k8 ?turn ?done ?c1
  case k3 => k_asm
  case kF =>
    (rename Fr _ _ _ _ => fE)
    exact fE
  case k4 =>
    (rename News _ _ _ _ => nE)
    exact nE
  case kL => exact rfl
  case k0 => with_reducible assumption
  case k1 => with_reducible assumption
  case k5 => with_reducible assumption
  case k6 => with_reducible assumption
  case k7 => omega
  case k8 => omega
  case c1 => exact rfl
  case turn =>
    intro i t x c tx tb nj lv ls nl I oI h tk u x0 x1 c0 c1 hi hS hv hl hm hcI j1 j2 j3 j4 F N
    refine Hold.get (p := wpAny _ _ _ _ _ _) ?_
    unfold Hold
    k_steps
    all_goals (
      (rename News _ _ _ _ => nE)
      simp only [List.push_toArray] at nE
      refine' law_step ?z1 nE ?z2 ?z3 ?z4 ?z5 ?z6
      case z1 => with_reducible assumption
      case z2 => with_reducible assumption
      case z3 => with_reducible assumption
      case z4 => omega
      case z5 => omega
      case z6 => with_reducible assumption)
  case done =>
    intro x c tx tb nj lv ls nl h tk u x0 x1 c0 c1 hS hl hm F N
    dsimp only
    refine exec_mid F N ?_ ?_
    · k_steps
      case' _ =>
        refine Hold.get (p := LCg.CompSrc _ _ _ _ _ _ _ _ _ _ _ _ _ _) ?_
        unfold Hold
        refine' rem_src ?k1 ?k2 ?k3 ?k4 ?k5 ?k6 ?k7 ?k8 ?k9 ?turn2 ?fin2
        case k1 => exact rfl
        case k2 =>
          (rename Fr _ _ _ _ => fE)
          exact fE
        case k3 =>
          (rename News _ _ _ _ => nE)
          exact nE
        case k4 => k_asm
        case k5 => with_reducible assumption
        case k6 => omega
        case k7 => with_reducible assumption
        case k8 => with_reducible assumption
        case k9 => omega
        case turn2 =>
          intro i I oI C oC D m₂ ys h tk t xv c tx tb nj E' h1 h2 h3 h4 h5 hC hx F N a1 a2 a3 b1 b2 b3 off ne
          k_steps
          all_goals (
            (rename News _ _ _ _ => nE)
            refine' rem_step ?z1 nE ?z2 ?z3 ?z4 ?z5 ?z6
            case z1 => with_reducible assumption
            case z2 =>
              unfold remMenu
              repeat' (first | exact .head _ | apply List.Mem.tail)
            case z3 => with_reducible assumption
            case z4 => with_reducible assumption
            case z5 => omega
            case z6 => omega)
        case fin2 =>
          intro ys ls xv c tx tb nj D h tk hS2 hl2 hm2 h1 h2 h3 h4 F N a1 a2 a3
          dsimp only
          k_steps
          (rename News _ _ _ _ => nE)
          (rename Fr _ _ _ _ => fE)
          (rename StrsAre _ _ => sE)
          refine' law_if fE nE ?l1sub sE ?l1hl ?l1hz ?l1a ?l1b ?l1c ?l1d ?l1e ?l1g ?l1k
          case l1hl => first | exact if_pos rfl | exact (if_neg (by decide)).trans (if_pos rfl)
          case l1sub => lcg_sub
          case l1hz => first | exact fun z hz => if_neg hz | exact fun _ _ => rfl
          case l1a => with_reducible assumption
          case l1b => with_reducible assumption
          case l1c => omega
          case l1d => omega
          case l1e => (try simp only [List.length_append, List.length_singleton]); omega
          case l1g => first | exact all_cr (by with_reducible assumption) (by with_reducible assumption) | exact fun y hy => all_a (hm y hy)
          case l1k =>
            repeat' (refine List.forall_mem_cons.mpr ⟨?_, ?_⟩)
            all_goals first | exact List.forall_mem_nil _ | (show @LT.lt Nat _ _ _; first | k_extra "w lt" | omega)
      case' _ =>
          (rename News _ _ _ _ => nE)
          (rename Fr _ _ _ _ => fE)
          (rename StrsAre _ _ => sE)
          refine' law_if fE nE ?l2sub sE ?l2hl ?l2hz ?l2a ?l2b ?l2c ?l2d ?l2e ?l2g ?l2k
          case l2hl => first | exact if_pos rfl | exact (if_neg (by decide)).trans (if_pos rfl)
          case l2sub => lcg_sub
          case l2hz => first | exact fun z hz => if_neg hz | exact fun _ _ => rfl
          case l2a => with_reducible assumption
          case l2b => with_reducible assumption
          case l2c => omega
          case l2d => omega
          case l2e => (try simp only [List.length_append, List.length_singleton]); omega
          case l2g => first | exact all_cr (by with_reducible assumption) (by with_reducible assumption) | exact fun y hy => all_a (hm y hy)
          case l2k =>
            repeat' (refine List.forall_mem_cons.mpr ⟨?_, ?_⟩)
            all_goals first | exact List.forall_mem_nil _ | (show @LT.lt Nat _ _ _; first | k_extra "w lt" | omega)
    · intro s₂ M
      refine law_mid_go M ?_
      intro h tk x c tx tb nj lines lv ls nl x0 x1 c0 c1 hS hl hm F nj1 nl1 nr1 N
      have hg : ∀ y ∈ ls, GoodL y := fun y hy => good_of (hm y hy)
      have hw := join_w hg hl
      have hjl := join_len hg hl
      have hok : ∀ y ∈ ls, PyData.strOk y = true := fun y hy => (Bool.and_eq_true_iff.mp (List.all_eq_true.mp menu_okStr y (hm y hy))).1
      (rename (_ < (2 : Int)) => hr2)
      refine exec_cut (Str.ofString "ended") SomeBool [(lines, listOf lv.toArray nl)] F N ?_ ?_
      · k_steps
        all_goals (
        (rename News _ _ _ _ => nE)
        (rename Fr _ _ _ _ => fE)
        refine' cut_post fE nE ?sub ?hx ?hz ?hP
        case sub => exact fun p hp => by rw [List.mem_singleton.mp hp]; repeat' (first | exact List.Mem.head _ | apply List.Mem.tail)
        case hx => first | exact if_pos rfl | exact (if_neg (by decide)).trans (if_pos rfl)
        case hz => first | exact fun z hz => if_neg hz | exact fun _ _ => rfl
        case hP => exact ⟨_, rfl⟩)
      intro v h tk hP F N
      obtain ⟨e, rfl⟩ := hP
      refine exec_cut (Str.ofString "head") (headP hr2) [(lines, listOf lv.toArray nl)] F N ?_ ?_
      · k_steps
        all_goals (
        (rename News _ _ _ _ => nE)
        (rename Fr _ _ _ _ => fE)
        refine' cut_post fE nE ?sub ?hx ?hz ?hP
        case sub => exact fun p hp => by rw [List.mem_singleton.mp hp]; repeat' (first | exact List.Mem.head _ | apply List.Mem.tail)
        case hx => first | exact if_pos rfl | exact (if_neg (by decide)).trans (if_pos rfl)
        case hz => first | exact fun z hz => if_neg hz | exact fun _ _ => rfl
        case hP => first | exact head_is1 (by assumption) | exact head_is2 (by assumption))
      intro v h tk hP F N
      obtain ⟨hd, t1, rfl, hh, hd9⟩ := hP
      refine exec_cut (Str.ofString "letters") (LettersAre hd e ls) [(lines, listOf lv.toArray nl)] F N ?_ ?_
      · k_steps
        all_goals (
        (rename News _ _ _ _ => nE)
        (rename Fr _ _ _ _ => fE)
        refine' cut_post fE nE ?sub ?hx ?hz ?hP
        case sub => exact fun p hp => by rw [List.mem_singleton.mp hp]; repeat' (first | exact List.Mem.head _ | apply List.Mem.tail)
        case hx => first | exact if_pos rfl | exact (if_neg (by decide)).trans (if_pos rfl)
        case hz => first | exact fun z hz => if_neg hz | exact fun _ _ => rfl
        case hP => first | exact letters_are1 (by assumption) (by assumption) | exact letters_are2 (by assumption) | exact letters_are3 (by assumption))
      intro v h tk hP F N
      obtain ⟨tx, t2, rfl, htx⟩ := hP
      k_steps)
end Mine
end

theorem PySem.Challenge.cw_on0091_01_holds : PySem.Challenge.rw_on0091_01.Holds :=
  Mine.law_holds
