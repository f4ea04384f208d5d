import PyProof.Rows.All
import Wide.All
import OpenK.AllK
import Wide.FinOn
import PySem.Challenge.RW_rh0073_01
set_option Elab.async false
section
open PySem PySem.W PyProof.Rows
set_option maxRecDepth 100000
set_option maxHeartbeats 8000000
namespace Mine
inductive Bx (p : Prop) : Type | a (h : p) | b
/-- closes a goal by a letter that nothing asks any more: x is open, and the letter of e stands in a wider context, so that x := .a _ takes a fresh one. The branch that bears it falls away (hd is `trivial`) -/
theorem dropL {p : Prop} (x : Bx p) (e : ∀ _ : Unit, ∃ h : p, x = .a h) : p := (e ()).elim fun h _ => h
section
local macro_rules | `(tactic| refine $_:ident (q := $_) (loose := $_) $_*) => `(tactic| (apply dropL; intro x; apply Exists.intro; rfl))
/-- says nothing: it is there for the two constants that k_head lays, hd.heap_1 (the written part) and hd.view_1 -/
theorem hd : True := by
  refine' (?f : PySem.Challenge.rw_rh0073_01.Holds → True) ?g
  case' g =>
    refine' holds_law ?ok ?h
    case' ok => apply dropL; intro x; apply Exists.intro; rfl
    intro said
    k_head
  case f => exact fun _ => trivial
end
end Mine
end

section
open PySem PySem.W PyProof.Rows
set_option maxRecDepth 100000
set_option maxHeartbeats 8000000
namespace Mine
theorem fillx : PySem.Challenge.rw_rh0073_01 = PySem.Challenge.rw_rh0073_01 ∧ Mine.hd.heap_1 = Mine.hd.heap_1 := by k_fill; exact ⟨rfl, rfl⟩

abbrev poolO (sl : Addr) (a b c : Int) (ta tb tc : Tok) : Obj := W.listOf #[.ref sl, .int a ta, .int b tb, .int c tc] 0

local macro_rules | `(tactic| k_all) => `(tactic| assumption)
local macro_rules | `(tactic| walk_at "binaryOp FloorDiv int int") => `(tactic| (refine floordiv_int (by omega) ?_ (Or.inl (PyProof.noPylong_of_log2 (by assumption)))))

section
variable {w : World} {mean : ExcName → Option Value} {mg mb : Str → Option Value} {dp un : Nat} {gd : Option (List Code)} {cn : Str} {cs : Scope} {a : Addr} {ccd : Value} {cl : List (Str × Addr)} {outer : List Env} {A₀ : Around} {base h₀ : Heap} {L : Addr} {m : Str → Option Value} {s : Shared} {Q E : Value → Shared → Prop}

theorem draw_spec {sl P : Addr} {vs : List Value} {ns : List Int} {rest : List (Addr × Obj)} {a1 a2 a3 : Int} {t1 t2 t3 : Tok} {lim : Int} {tl : Tok}
  (B : Below A₀ base outer h₀) (F : Fr h₀ L s.heap m) (X : (hd.heap_1 w.params).In h₀) (N : News h₀ L s.heap ((P, poolO sl a1 a2 a3 t1 t2 t3) :: (sl, W.listOf vs.toArray 0) :: rest)) (T : Top hd.view_1 (looseW hd.view_1 []) mean mg mb h₀) (hk : cs.kind = .function)
  (hI : IntsAre vs ns) (hns : ns.length ≤ 63) (hP : ∀ p ∈ rest, p.1 ≠ P) (hPs : @Ne Nat P sl) (hpy : lim.natAbs.log2 < 9000) (h1 : 0 ≤ a1) (h2 : -1 ≤ a2) (h2' : a2 ≤ 2 ^ 40) (h3 : 0 ≤ a3) (hl : 0 < lim) (hd' : dp + 2 < recursionLimit) (hu : un + 16 < cLine)
  (hret : ∀ d t h' tk' b1 b2 b3 u1 u2 u3, 0 ≤ d → d < lim → 0 ≤ b1 → -1 ≤ b2 → b2 ≤ a2 + 1 → 0 ≤ b3 → Fr h₀ L h' m → News h₀ L h' ((P, poolO sl b1 b2 b3 u1 u2 u3) :: (sl, W.listOf vs.toArray 0) :: rest) → Q (.int d t) { s with heap := h', toks := tk' }) :
  wpAny (model PySem.Challenge.pw_rh0073_01 w) (ktrTop dp un gd cn cs L a ccd cl outer) (call (.ref 298) [.ref P, .int lim tl]) Q E s := by
  refine wpAny_call ?_
  k_dflt cell_enter
  k_steps
  all_goals (refine hret _ _ _ _ _ _ _ _ _ _ ?_ ?_ ?_ ?_ ?_ ?_ (by assumption) (by assumption))
  all_goals first | omega | exact Int.fmod_nonneg_of_pos _ hl | exact Int.fmod_lt_of_pos _ hl | (apply Int.fdiv_nonneg <;> first | omega | (split <;> omega)) | trace_state
end
end Mine
end

section
local macro_rules | `(tactic| walk_at "pad") => `(tactic| fail)
open PySem PySem.W PyProof.Rows
set_option maxRecDepth 100000
set_option maxHeartbeats 8000000
namespace Mine

section
variable {w : World} {mean : ExcName → Option Value} {mg mb : Str → Option Value} {dp un : Nat} {gd : Option (List Code)} {cn : Str} {cs : Scope} {a : Addr} {ccd : Value} {cl : List (Str × Addr)} {outer : List Env} {A₀ : Around} {base h₀ : Heap} {L : Addr} {m : Str → Option Value} {s : Shared} {Q E : Value → Shared → Prop}

theorem drawU {sl P : Addr} {vs : List Value} {ns : List Int} {news : List (Addr × Obj)} {g : Obj → List (Addr × Obj)} {a1 a2 a3 : Int} {t1 t2 t3 : Tok} {lim : Int} {tl : Tok}
  (B : Below A₀ base outer h₀) (F : Fr h₀ L s.heap m) (X : (hd.heap_1 w.params).In h₀) (N : News h₀ L s.heap news) (U : UpdF P (poolO sl a1 a2 a3 t1 t2 t3) news g) (hS : (sl, W.listOf vs.toArray 0) ∈ news) (T : Top hd.view_1 (looseW hd.view_1 []) mean mg mb h₀) (hk : cs.kind = .function)
  (hI : IntsAre vs ns) (hns : ns.length ≤ 63) (hPs : @Ne Nat P sl) (hpy : lim.natAbs.log2 < 9000) (h1 : 0 ≤ a1) (h2 : -1 ≤ a2) (h2' : a2 ≤ 2 ^ 40) (h3 : 0 ≤ a3) (hl : 0 < lim) (hd' : dp + 2 < recursionLimit) (hu : un + 16 < cLine)
  (hret : ∀ d t h' tk' b1 b2 b3 u1 u2 u3, 0 ≤ d → d < lim → 0 ≤ b1 → -1 ≤ b2 → b2 ≤ a2 + 1 → 0 ≤ b3 → Fr h₀ L h' m → News h₀ L h' (g (poolO sl b1 b2 b3 u1 u2 u3)) → Q (.int d t) { s with heap := h', toks := tk' }) :
  wpAny (model PySem.Challenge.pw_rh0073_01 w) (ktrTop dp un gd cn cs L a ccd cl outer) (call (.ref 298) [.ref P, .int lim tl]) Q E s := by
  obtain ⟨pre, post, rfl, hg, n1, n2⟩ := U.split
  have hsl : (sl, W.listOf vs.toArray 0) ∈ pre ++ post := by
    rcases List.mem_append.mp hS with h | h
    · exact List.mem_append_left _ h
    · rcases List.mem_cons.mp h with h | h
      · exact absurd (congrArg Prod.fst h).symm hPs
      · exact List.mem_append_right _ h
  refine draw_spec (rest := pre ++ post) (t1 := t1) (t2 := t2) (t3 := t3) B F X (fun p hp => N p ?_) T hk hI hns (fun p hp => ?_) hPs hpy h1 h2 h2' h3 hl hd' hu (fun d t h' tk' b1 b2 b3 u1 u2 u3 q1 q2 q3 q4 q5 q6 F' N' => hret d t h' tk' b1 b2 b3 u1 u2 u3 q1 q2 q3 q4 q5 q6 F' (fun p hp => N' p ?_))
  · simp only [List.mem_cons, List.mem_append] at hp hsl ⊢
    rcases hp with rfl | rfl | h | h
    · exact .inr (.inl rfl)
    · rcases hsl with h | h
      · exact .inl h
      · exact .inr (.inr h)
    · exact .inl h
    · exact .inr (.inr h)
  · rcases List.mem_append.mp hp with h | h
    · exact n1 p h
    · exact n2 p h
  · rw [hg] at hp
    simp only [List.mem_cons, List.mem_append] at hp ⊢
    rcases hp with h | rfl | h
    · exact .inr (.inr (.inl h))
    · exact .inl rfl
    · exact .inr (.inr (.inr h))

theorem pw14 {d : Int} (h0 : 0 ≤ d) (h1 : d < 14) : 0 < (2:Int) ^ d.toNat ∧ (2:Int) ^ d.toNat ≤ 8192 := by
  obtain ⟨n, rfl⟩ := Int.eq_ofNat_of_zero_le h0
  have hn : n ≤ 13 := by omega
  have h2 : (2:Nat) ^ n ≤ 2 ^ 13 := Nat.pow_le_pow_right (by decide) hn
  have h3 : 0 < (2:Nat) ^ n := Nat.pow_pos (by decide)
  have e : ((2:Int) ^ (Int.toNat (n:Int))) = ((2 ^ n : Nat) : Int) := by simp
  rw [e]
  omega
theorem pwA {d : Int} (h0 : 0 ≤ d) (h1 : d < 14) : -10 ^ 30 < (2:Int) ^ d.toNat := by have := pw14 h0 h1; omega
theorem pwB {d : Int} (h0 : 0 ≤ d) (h1 : d < 14) : (2:Int) ^ d.toNat < 10 ^ 30 := by have := pw14 h0 h1; omega
theorem pwC {d : Int} (h0 : 0 ≤ d) (h1 : d < 14) : -10 ^ 30 < -(2:Int) ^ d.toNat := by have := pw14 h0 h1; omega
theorem pwD {d : Int} (h0 : 0 ≤ d) (h1 : d < 14) : -(2:Int) ^ d.toNat < 10 ^ 30 := by have := pw14 h0 h1; omega
theorem tn29 : (10:Int) ^ (Int.toNat 29) = 10 ^ 29 := rfl
theorem tn30 : (10:Int) ^ (Int.toNat 30) = 10 ^ 30 := rfl
local macro_rules | `(tactic| k_all) => `(tactic| assumption)
local macro_rules | `(tactic| walk_at "call ref") => `(tactic| (k_here; (with_reducible show wpAny _ _ (call (Value.ref 298) _) _ _ _); k_dflt (refine' drawU ?B ?F ?X ?N ?U ?S ?T ?hk ?hI ?hns ?hPs ?hpy ?h1 ?h2 ?h2' ?h3 ?hl ?hd ?hu ?_; (case B => k_asm); (case F => k_asm); (case X => k_asm); (case N => k_asm); (case T => k_asm); (case U => k_updF); (case S => k_mem); (case hk => first | rfl | assumption); (case hI => assumption); (case hns => assumption); (case hPs => first | assumption | omega); (case hpy => decide +kernel); (case h1 => omega); (case h2 => omega); (case h2' => omega); (case h3 => omega); (case hl => first | omega | decide +kernel); (case hd => ktr_room); (case hu => ktr_units); k_whole; intro d9 t9 h9 tk9 b1 b2 b3 u1 u2 u3 q1 q2 q3 q4 q5 q6 F9 N9; (try dsimp only at N9); (try k_sweep); (try dsimp only); (try k_fold))))

theorem base_spec {sl P : Addr} {vs : List Value} {ns : List Int} {rest : List (Addr × Obj)} {a1 a2 a3 : Int} {t1 t2 t3 : Tok}
  (B : Below A₀ base outer h₀) (F : Fr h₀ L s.heap m) (X : (hd.heap_1 w.params).In h₀) (N : News h₀ L s.heap ((P, poolO sl a1 a2 a3 t1 t2 t3) :: (sl, W.listOf vs.toArray 0) :: rest)) (T : Top hd.view_1 (looseW hd.view_1 []) mean mg mb h₀) (hk : cs.kind = .function)
  (hI : IntsAre vs ns) (hns : ns.length ≤ 63) (hP : ∀ p ∈ rest, p.1 ≠ P) (hPs : @Ne Nat P sl) (h1 : 0 ≤ a1) (h2 : -1 ≤ a2) (h2' : a2 ≤ 2 ^ 30) (h3 : 0 ≤ a3) (hd' : dp + 4 < recursionLimit) (hu : un + 32 < cLine)
  (hret : ∀ (d : Int) t h' tk' b1 b2 b3 u1 u2 u3, -(10 ^ 30) < d → d < 10 ^ 30 → 0 ≤ b1 → -1 ≤ b2 → b2 ≤ a2 + 10 → 0 ≤ b3 → Fr h₀ L h' m → News h₀ L h' ((P, poolO sl b1 b2 b3 u1 u2 u3) :: (sl, W.listOf vs.toArray 0) :: rest) → Q (.int d t) { s with heap := h', toks := tk' }) :
  wpAny (model PySem.Challenge.pw_rh0073_01 w) (ktrTop dp un gd cn cs L a ccd cl outer) (call (.ref 305) [.ref P]) Q E s := by
  refine wpAny_call ?_
  k_dflt cell_enter
  k_steps
  all_goals (try refine hret _ _ _ _ _ _ _ _ _ _ ?_ ?_ ?_ ?_ ?_ ?_ (by assumption) (by assumption))
  all_goals (try omega)
  all_goals first
    | (simp only [tn29, tn30] at *; omega)
    | with_reducible exact pwA (by assumption) (by assumption)
    | with_reducible exact pwB (by assumption) (by assumption)
    | with_reducible exact pwC (by assumption) (by assumption)
    | with_reducible exact pwD (by assumption) (by assumption)
    | trace_state
end
end Mine
end

section
open PySem PySem.W PyProof.Rows
set_option maxRecDepth 100000
set_option maxHeartbeats 8000000
namespace Mine

theorem toHead {news : List (Addr × Obj)} {g : Obj → List (Addr × Obj)} {P sl : Addr} {o os : Obj} (U : UpdF P o news g) (hS : (sl, os) ∈ news) (hPs : @Ne Nat P sl) :
    ∃ rest : List (Addr × Obj), (∀ p ∈ (P, o) :: (sl, os) :: rest, p ∈ news) ∧ (∀ p ∈ rest, p.1 ≠ P) ∧ ∀ o', ∀ p ∈ g o', p ∈ (P, o') :: (sl, os) :: rest := by
  obtain ⟨pre, post, rfl, hg, n1, n2⟩ := U.split
  have hsl : (sl, os) ∈ pre ++ post := by
    rcases List.mem_append.mp hS with h | h
    · exact List.mem_append_left _ h
    · rcases List.mem_cons.mp h with h | h
      · exact absurd (congrArg Prod.fst h).symm hPs
      · exact List.mem_append_right _ h
  refine ⟨pre ++ post, fun p hp => ?_, fun p hp => (List.mem_append.mp hp).elim (n1 p) (n2 p), fun o' p hp => ?_⟩
  · simp only [List.mem_cons, List.mem_append] at hp hsl ⊢
    rcases hp with rfl | rfl | h | h
    · exact .inr (.inl rfl)
    · rcases hsl with h | h
      · exact .inl h
      · exact .inr (.inr h)
    · exact .inl h
    · exact .inr (.inr h)
  · rw [hg] at hp
    simp only [List.mem_cons, List.mem_append] at hp ⊢
    rcases hp with h | rfl | h
    · exact .inr (.inr (.inl h))
    · exact .inl rfl
    · exact .inr (.inr (.inr h))

section
variable {w : World} {mean : ExcName → Option Value} {mg mb : Str → Option Value} {dp un : Nat} {gd : Option (List Code)} {cn : Str} {cs : Scope} {a : Addr} {ccd : Value} {cl : List (Str × Addr)} {outer : List Env} {A₀ : Around} {base h₀ : Heap} {L : Addr} {m : Str → Option Value} {s : Shared} {Q E : Value → Shared → Prop}

local macro_rules | `(tactic| k_all) => `(tactic| assumption)
local macro_rules | `(tactic| walk_at "call ref") => `(tactic| (k_here; (with_reducible show wpAny _ _ (call (Value.ref 298) _) _ _ _); k_dflt (refine' drawU ?B ?F ?X ?N ?U ?S ?T ?hk ?hI ?hns ?hPs ?hpy ?h1 ?h2 ?h2' ?h3 ?hl ?hd ?hu ?_; (case B => k_asm); (case F => k_asm); (case X => k_asm); (case N => k_asm); (case T => k_asm); (case U => k_updF); (case S => k_mem); (case hk => first | rfl | assumption); (case hI => assumption); (case hns => assumption); (case hPs => first | assumption | omega); (case hpy => decide +kernel); (case h1 => omega); (case h2 => omega); (case h2' => omega); (case h3 => omega); (case hl => first | omega | decide +kernel); (case hd => ktr_room); (case hu => ktr_units); k_whole; intro d9 t9 h9 tk9 b1 b2 b3 u1 u2 u3 q1 q2 q3 q4 q5 q6 F9 N9; (try dsimp only at N9); (try k_sweep); (try dsimp only); (try k_fold))))

theorem tn20 : (10:Int) ^ (Int.toNat 20) = 10 ^ 20 := rfl
theorem expo_spec {sl P : Addr} {vs : List Value} {ns : List Int} {rest : List (Addr × Obj)} {a1 a2 a3 : Int} {t1 t2 t3 : Tok}
  (B : Below A₀ base outer h₀) (F : Fr h₀ L s.heap m) (X : (hd.heap_1 w.params).In h₀) (N : News h₀ L s.heap ((P, poolO sl a1 a2 a3 t1 t2 t3) :: (sl, W.listOf vs.toArray 0) :: rest)) (T : Top hd.view_1 (looseW hd.view_1 []) mean mg mb h₀) (hk : cs.kind = .function)
  (hI : IntsAre vs ns) (hns : ns.length ≤ 63) (hP : ∀ p ∈ rest, p.1 ≠ P) (hPs : @Ne Nat P sl) (h1 : 0 ≤ a1) (h2 : -1 ≤ a2) (h2' : a2 ≤ 2 ^ 30) (h3 : 0 ≤ a3) (hd' : dp + 4 < recursionLimit) (hu : un + 32 < cLine)
  (hret : ∀ (d : Int) t h' tk' b1 b2 b3 u1 u2 u3, -(10 ^ 22) < d → d < 10 ^ 22 → 0 ≤ b1 → -1 ≤ b2 → b2 ≤ a2 + 10 → 0 ≤ b3 → Fr h₀ L h' m → News h₀ L h' ((P, poolO sl b1 b2 b3 u1 u2 u3) :: (sl, W.listOf vs.toArray 0) :: rest) → Q (.int d t) { s with heap := h', toks := tk' }) :
  wpAny (model PySem.Challenge.pw_rh0073_01 w) (ktrTop dp un gd cn cs L a ccd cl outer) (call (.ref 312) [.ref P]) Q E s := by
  refine wpAny_call ?_
  k_dflt cell_enter
  k_steps
  all_goals (try refine hret _ _ _ _ _ _ _ _ _ _ ?_ ?_ ?_ ?_ ?_ ?_ (by assumption) (by assumption))
  all_goals (try omega)
  all_goals first
    | (simp only [tn20] at *; omega)
    | trace_state

theorem baseU {sl P : Addr} {vs : List Value} {ns : List Int} {news : List (Addr × Obj)} {g : Obj → List (Addr × Obj)} {a1 a2 a3 : Int} {t1 t2 t3 : Tok}
  (B : Below A₀ base outer h₀) (F : Fr h₀ L s.heap m) (X : (hd.heap_1 w.params).In h₀) (N : News h₀ L s.heap news) (U : UpdF P (poolO sl a1 a2 a3 t1 t2 t3) news g) (hS : (sl, W.listOf vs.toArray 0) ∈ news) (T : Top hd.view_1 (looseW hd.view_1 []) mean mg mb h₀) (hk : cs.kind = .function)
  (hI : IntsAre vs ns) (hns : ns.length ≤ 63) (hPs : @Ne Nat P sl) (h1 : 0 ≤ a1) (h2 : -1 ≤ a2) (h2' : a2 ≤ 2 ^ 30) (h3 : 0 ≤ a3) (hd' : dp + 4 < recursionLimit) (hu : un + 32 < cLine)
  (hret : ∀ (d : Int) t h' tk' b1 b2 b3 u1 u2 u3, -(10 ^ 30) < d → d < 10 ^ 30 → 0 ≤ b1 → -1 ≤ b2 → b2 ≤ a2 + 10 → 0 ≤ b3 → Fr h₀ L h' m → News h₀ L h' (g (poolO sl b1 b2 b3 u1 u2 u3)) → Q (.int d t) { s with heap := h', toks := tk' }) :
  wpAny (model PySem.Challenge.pw_rh0073_01 w) (ktrTop dp un gd cn cs L a ccd cl outer) (call (.ref 305) [.ref P]) Q E s := by
  obtain ⟨rest, hin, hne, hout⟩ := toHead U hS hPs
  exact base_spec (rest := rest) B F X (fun p hp => N p (hin p hp)) T hk hI hns hne hPs h1 h2 h2' h3 hd' hu
    fun d t h' tk' b1 b2 b3 u1 u2 u3 q1 q2 q3 q4 q5 q6 F' N' => hret d t h' tk' b1 b2 b3 u1 u2 u3 q1 q2 q3 q4 q5 q6 F' fun p hp => N' p (hout _ p hp)

theorem expoU {sl P : Addr} {vs : List Value} {ns : List Int} {news : List (Addr × Obj)} {g : Obj → List (Addr × Obj)} {a1 a2 a3 : Int} {t1 t2 t3 : Tok}
  (B : Below A₀ base outer h₀) (F : Fr h₀ L s.heap m) (X : (hd.heap_1 w.params).In h₀) (N : News h₀ L s.heap news) (U : UpdF P (poolO sl a1 a2 a3 t1 t2 t3) news g) (hS : (sl, W.listOf vs.toArray 0) ∈ news) (T : Top hd.view_1 (looseW hd.view_1 []) mean mg mb h₀) (hk : cs.kind = .function)
  (hI : IntsAre vs ns) (hns : ns.length ≤ 63) (hPs : @Ne Nat P sl) (h1 : 0 ≤ a1) (h2 : -1 ≤ a2) (h2' : a2 ≤ 2 ^ 30) (h3 : 0 ≤ a3) (hd' : dp + 4 < recursionLimit) (hu : un + 32 < cLine)
  (hret : ∀ (d : Int) t h' tk' b1 b2 b3 u1 u2 u3, -(10 ^ 22) < d → d < 10 ^ 22 → 0 ≤ b1 → -1 ≤ b2 → b2 ≤ a2 + 10 → 0 ≤ b3 → Fr h₀ L h' m → News h₀ L h' (g (poolO sl b1 b2 b3 u1 u2 u3)) → Q (.int d t) { s with heap := h', toks := tk' }) :
  wpAny (model PySem.Challenge.pw_rh0073_01 w) (ktrTop dp un gd cn cs L a ccd cl outer) (call (.ref 312) [.ref P]) Q E s := by
  obtain ⟨rest, hin, hne, hout⟩ := toHead U hS hPs
  exact expo_spec (rest := rest) B F X (fun p hp => N p (hin p hp)) T hk hI hns hne hPs h1 h2 h2' h3 hd' hu
    fun d t h' tk' b1 b2 b3 u1 u2 u3 q1 q2 q3 q4 q5 q6 F' N' => hret d t h' tk' b1 b2 b3 u1 u2 u3 q1 q2 q3 q4 q5 q6 F' fun p hp => N' p (hout _ p hp)
end
end Mine
end

section
open PySem PySem.W PySem.Calls PyProof.Rows Builtin Builtin.ObjectAttr
set_option maxRecDepth 100000
set_option maxHeartbeats 8000000
namespace Mine

abbrev tupO (vs : List Value) : Obj := { cls := .type "tuple", data := .seq vs.toArray }
abbrev excN (t : Addr) : Obj := { cls := .ref 51, data := .fields #[.ref t, .none, .none, .none, .bool false, .none] }
abbrev excD (t dx : Addr) : Obj := { cls := .ref 51, dict := some dx, data := .fields #[.ref t, .none, .none, .none, .bool false, .none] }

section
variable {w : World} {A : Around} {E : Value → Shared → Prop} {s : Shared} {h₀ : Heap} {L x t : Addr} {m : Str → Option Value} {news : List (Addr × Obj)} {g : Obj → List (Addr × Obj)} {v : Value}

theorem pe_find_ball {P : Params} : findIn (hd.heap_1 P) (.ref 51) "ball" = some none := by k_is
theorem pe_find_set {P : Params} : findIn (hd.heap_1 P) (.ref 51) "__setattr__" = some (some (.builtin "object.__setattr__")) := by k_is
theorem pe_find_init {P : Params} : findIn (hd.heap_1 P) (.ref 51) "__init__" = some (some (.ref 48)) := by k_is
theorem pe_obj {P : Params} : ∃ k0 k1 k2 k3 k5, (hd.heap_1 P).lookup 51 = some (excClassObj "PrologError" "PrologError" 51 50 [.ref 31] [.ref 31, .type "Exception", .type "BaseException", .type "object"] true [] [] false none none k0 k1 k2 k3 k5 "Exception.__new__") := ⟨_, _, _, _, _, by k_is⟩
theorem pe_cls {P : Params} : ∃ cd, clsIn (hd.heap_1 P) 51 = some cd ∧ cd.hasDict = true ∧ cd.mro = [.ref 51, .ref 31, .type "Exception", .type "BaseException", .type "object"] ∧ cd.hasDel = false := by
  obtain ⟨_, _, _, _, _, e⟩ := @pe_obj P
  exact ⟨_, by unfold clsIn; rw [e], rfl, rfl, rfl⟩

theorem pe_inst (N : News h₀ L s.heap news) (hm : (x, excN t) ∈ news) : InstAt s.heap x (excN t) 51 none := ⟨(N _ hm).1, rfl, rfl, trivial⟩

theorem pe_set {Q : Unit → Shared → Prop} (F : Fr h₀ L s.heap m) (N : News h₀ L s.heap news) (X₀ : (hd.heap_1 w.params).In h₀) (U : UpdF x (excN t) news g)
    (hq : ∀ dx h' tk tk' hs, Fr h₀ L h' m → News h₀ L h' ((dx, W.dictOf [⟨hs, .str "ball" tk, v⟩] 1) :: g (excD t dx)) → (∀ p ∈ news, p.1 < dx) → Q () { s with heap := h', toks := tk' }) :
    wpAny (model PySem.Challenge.pw_rh0073_01 w) A (setAttr (.ref x) "ball" v) Q E s := by
  obtain ⟨hh, gg, dd, tt, os⟩ := s
  dsimp only at F N hq ⊢
  obtain ⟨pre, post, rfl, hg, n1, n2⟩ := U.split
  have X := X₀.keeps F.keep
  have I : InstAt hh x (excN t) 51 none := ⟨(N _ (List.mem_append_right _ (List.mem_cons_self ..))).1, rfl, rfl, trivial⟩
  have SF := PySem.F.store_Exception
  have SO := PySem.F.store_object
  obtain ⟨cd, hc, hdict, hmro, -⟩ := @pe_cls w.params
  refine set_plain (s := ⟨hh, gg, dd, tt, os⟩) X I pe_find_set ?_
  have sub : Looks (model PySem.Challenge.pw_rh0073_01 w) hh (isInstance (.ref x) (.type "object")) true := I.type.andThen (looks_mroIn X (by unfold mroIn; rw [hc, Option.bind_some, hmro]; rfl))
  refine codeAny_call_builtin SO.slot.plain SO.entry (@check_slot (model PySem.Challenge.pw_rh0073_01 w) _ _ ⟨hh, gg, dd, tt + 1, os⟩ "object.__setattr__" "object" "__setattr__" (.ref x) [.str "ball" tt, v] [] _ SO.kind SO.split sub (SO.args _ _ _) ?_)
  have hm : Looks (model PySem.Challenge.pw_rh0073_01 w) hh (mroOf (.ref 51)) cd.mro := (looks_clsIn X hc).andThen .now
  rw [osa_eq, refuse_eq]
  refine wpAny_bind (wpAny_bind (Looks.at I.type (wpAny_bind (Looks.at hm ?_))))
  rw [hmro, refuseLoop_ref, refuseLoop_ref, SF.passes]
  refine wpAny_pure (wpAny_bind (Looks.at I.type (wpAny_bind (Looks.at (looks_findIn X pe_find_ball) (wpAny_bind (Looks.at Looks.now ?_))))))
  show wpAny _ _ (storeInOwnDict _ _ _ _ _ _) _ _ _
  unfold storeInOwnDict ownDictForStores instanceDict
  have hx := I.at_
  refine wpAny_bind (wpAny_pure (wpAny_bind (wpAny_bind (wpAny_loadPart hx (wpAny_bind (Looks.at (looks_clsIn X hc) ?_))))))
  rw [hdict]
  have F1 := F.push W.emptyDict
  have N1 := N.push F W.emptyDict
  have hpre : ∀ p ∈ (hh.objs.size, W.emptyDict) :: pre, p.1 ≠ x := fun p hp => by
    rcases List.mem_cons.mp hp with rfl | hp
    · exact (Nat.ne_of_lt (Heap.lt_size hx)).symm
    · exact n1 p hp
  obtain ⟨F2, N2⟩ := news_upd (pre := (hh.objs.size, W.emptyDict) :: pre) (post := post) (f := fun o => { o with dict := some hh.objs.size }) F1 N1 hpre n2 (o' := excD t hh.objs.size) rfl rfl
  have hlt : ∀ p ∈ pre ++ (x, excN t) :: post, p.1 < hh.objs.size := fun p hp => Heap.lt_size (N p hp).1
  obtain ⟨F3, N3⟩ := news_upd (pre := []) (post := pre ++ (x, excD t hh.objs.size) :: post) (d := hh.objs.size) (o := W.emptyDict) (o' := W.dictOf [⟨PyData.keyHash w.params "ball", .str "ball" (tt + 1), v⟩] 1) (f := Obj.putName "ball" (PyData.keyHash w.params "ball") (.str "ball" (tt + 1)) v) F2 N2 (fun _ h => nomatch h) (fun p hp => by
    rcases List.mem_append.mp hp with h | h
    · exact Nat.ne_of_lt (hlt p (List.mem_append_left _ h))
    · rcases List.mem_cons.mp h with rfl | h
      · exact Nat.ne_of_lt (Heap.lt_size hx)
      · exact Nat.ne_of_lt (hlt p (List.mem_append_right _ (.tail _ h)))) (by first | rfl | (rw [Obj.putName_eq]; rfl)) rfl
  have D2 := (N2 (hh.objs.size, W.emptyDict) (.head _)).1
  have D3 := (N3 (hh.objs.size, _) (.head _)).1
  show wpAny _ _ (alloc _ >>= _) _ _ _
  refine wpAny_bind (wpAny_alloc (wpAny_bind (wpAny_update (Heap.get?_push_of_some _ hx) ?_)))
  refine wpAny_pure (a := some hh.objs.size) ?_
  show wpAny _ _ (storeInDict _ _ _ _) _ _ _
  unfold storeInDict newKeyGuard nsSet
  refine wpAny_bind (wpAny_pure (wpAny_bind (wpAny_bind (wpAny_bind (wpAny_askSetting (wpAny_pure (wpAny_bind (wpAny_mkText (wpAny_bind (wpAny_loadPart D2 ?_))))))))))
  dsimp only
  rw [show aRefKeyMayBeTheName "ball" (#[] : Array DictEntry) = false from rfl]
  refine wpAny_updatePart D2 ?_
  refine wpAny_bind (wpAny_lookBehind D3 (pastItsLine_dict (by rw [List.size_toArray, sizeLine_eq]; exact Nat.le_of_ble_eq_true rfl)) ?_)
  refine wpAny_pure ?_
  exact hq _ _ _ _ _ F3 (by rw [hg]; exact N3) hlt

theorem pe_31 {P : Params} : ∃ cd : ClassData, (hd.heap_1 P).lookup 31 = some { cls := .type "type", dict := none, data := .cls cd, slots := #[some (.ref 22), none, some (.str "ClausemillError" 196), some (.str "ClausemillError" 204), some (.builtin "Exception.__new__"), some (.bool true)] } ∧ cd.ns = 30 := ⟨_, by k_is, rfl⟩
theorem pe_30 {P : Params} : ∃ es n, (hd.heap_1 P).lookup 30 = some { cls := .type "dict", data := .dict es n } ∧ StrKeys es ∧ nsFind es "__init__" = none := by
  refine ⟨_, _, by k_is, ?_, by kernel_rfl⟩
  intro e he
  simp only [List.mem_toArray, List.mem_cons, List.not_mem_nil, or_false] at he
  repeat' (first | (rcases he with rfl | he; · exact ⟨_, _, rfl⟩) | (subst he; exact ⟨_, _, rfl⟩))

theorem pe_tail {h : Heap} {P : Params} (X : (hd.heap_1 P).In h) : OwnTail h [.type "Exception", .type "BaseException", .type "object"] [.ref 31, .type "Exception", .type "BaseException", .type "object"] := by
  obtain ⟨cd, h1, e1⟩ := @pe_31 P
  obtain ⟨es, n, h2, k, f⟩ := @pe_30 P
  refine OwnTail.own (X _ _ h1) (mA := nsFind es) ?_ f .base
  rw [e1]
  exact ⟨_, es, n, X _ _ h2, rfl, k, fun _ => rfl⟩

theorem pe_call {R : Result → Shared → Prop} (F : Fr h₀ L s.heap m) (N : News h₀ L s.heap news) (X₀ : (hd.heap_1 w.params).In h₀)
    (hq : ∀ e t h', Fr h₀ L h' m → News h₀ L h' ((e, excN t) :: (t, tupO [v]) :: news) → (∀ p ∈ news, p.1 < t) → t < e →
      codeAny (model PySem.Challenge.pw_rh0073_01 w) (A.under (.builtin "type.__call__" ⟨[.ref 51, v], []⟩)) (.call (.ref 48) ⟨[.ref e, v], []⟩) (InitBack e R) { s with heap := h' }) :
    codeAny (model PySem.Challenge.pw_rh0073_01 w) A (.call (.ref 51) ⟨[v], []⟩) R s := by
  obtain ⟨hh, gg, dd, tt, os⟩ := s
  dsimp only at F N hq ⊢
  have X := X₀.keeps F.keep
  obtain ⟨k0, k1, k2, k3, k5, hl⟩ := @pe_obj w.params
  have hC := X _ _ hl
  have f1 := tc_lookup
  have f2 := tc_bind (.ref 51)
  have hT : (⟨hh, gg, dd, tt, os⟩ : Shared).TypeIs (.ref 51) "type" := ⟨_, hC, rfl⟩
  refine codeAny_of_tree ?_
  show wpAny _ _ (callAny (.ref 51) _) _ _ _
  repeat (any_goals (first | assumption | with_reducible refine wpAny_loadPart_at hC ?_ | wp_step))
  refine ⟨rfl, ?_⟩
  refine codeAny_call_builtin_at (Code.quiet_builtin _ (by decide +kernel)) entry_typeCall (wpAny_check_type_call_sub hC ?_)
  have Fn := PySem.F.excBase_Exception
  have T := pe_tail X
  repeat (first | with_reducible refine wpAny_loadPart_at hC ?_ | with_reducible refine wpAny_madeBy_exc hC ?_ | wp_step)
  refine codeAny_call_builtin_code (Code.quiet_builtin _ Fn.quiet) (wpAny_check_new_subU Fn (by decide) T hC ?_)
  refine codeAny_exc_new_subU Fn (by decide) Fn T hC ?_ (by show 1 ≤ sizeLine; rw [sizeLine_eq]; exact Nat.le_of_ble_eq_true rfl)
  show wpAny _ _ _ _ _ _
  have hf : typeIn (hd.heap_1 w.params) (.ref 48) = some (.type "function") := by k_is
  have F1 := (F.push (tupO [v])).push (excN hh.objs.size)
  have N1 := (N.push F (tupO [v])).push (F.push _) (excN hh.objs.size)
  rw [Heap.size_push] at N1
  have k : ∀ b o, hh.get? b = some o → ((hh.push (tupO [v])).push (excN hh.objs.size)).get? b = some o := fun b o e => Heap.get?_push_of_some _ (Heap.get?_push_of_some _ e)
  have hx := (N1 _ (.head _)).1
  have t1 : Looks (model PySem.Challenge.pw_rh0073_01 w) ((hh.push (tupO [v])).push (excN hh.objs.size)) (typeOf (.ref (hh.objs.size + 1))) (.ref 51) := (Looks.ld hx).andThen .now
  have s1 := (looks_mroIn (M := model PySem.Challenge.pw_rh0073_01 w) X (C := 51) (base := .ref 51) (r := true) (by k_is)).keeps k
  have i1 := (looks_findIn (M := model PySem.Challenge.pw_rh0073_01 w) X (pe_find_init)).keeps k
  have b1 := (bind_fn (M := model PySem.Challenge.pw_rh0073_01 w) X (.ref (hh.objs.size + 1)) hf).keeps k
  show wpAny _ _ _ _ _ ⟨(hh.push (tupO [v])).push (excN hh.objs.size), gg, dd, tt, os⟩
  unfold isInstance callSpecial? specialOf
  repeat (first | with_reducible refine wpAny_call ?_ | lk)
  refine codeAny_mono (hq _ _ _ F1 N1 (fun p hp => Heap.lt_size (N p hp).1) (Nat.lt_succ_self _)) fun r s' z => ?_
  rcases r with e | (v | _ | _ | _) <;> first | exact z | exact z.elim | skip
  obtain ⟨rfl, z⟩ := z
  exact wpAny_pure (wpAny_pure z)
end
end Mine
end

section
open PySem PySem.W PySem.Spec PySem.Calls PyProof.Rows PyProof.V
set_option maxRecDepth 100000
set_option maxHeartbeats 8000000
namespace Mine

abbrev symD (i1 i2 i3 i4 : Int) (k1 k2 k3 k4 : Tok) (T AD FL FD : Addr) : Obj :=
  W.dictOf [⟨i1, .str "texts" k1, .ref T⟩, ⟨i2, .str "atom_numbers" k2, .ref AD⟩, ⟨i3, .str "functors" k3, .ref FL⟩, ⟨i4, .str "functor_numbers" k4, .ref FD⟩] 4

section
variable {prog : Program} {w : World} {A : Around} {E : Value → Shared → Prop} {s : Shared} {d : Addr}
theorem get_str {D : List (PyData × PyData)} {x : Str} {t u : Tok} {j k : Int} {Q : Value → Shared → Prop} (T : TabAt (strKind prog w) PyData.str s.heap d D) (hl : (Spec.lookup (PyData.str x) D).getD (.int j) = .int k)
    (h : ∀ t', Q (.int k t') { s with toks := s.toks + 1 }) : wpAny (model prog w) A (call (.builtin "dict.get") [.ref d, .str x t, .int j u]) Q E s :=
  call_get2_strTab T (Flat.int j u) fun v hv => by
    rw [hl] at hv
    obtain ⟨t', rfl⟩ := Flat.int_inv hv
    exact h t'

theorem len_led {h₀ : Heap} {L T : Addr} {news : List (Addr × Obj)} {vs : List Value} {n : Nat} {Q : Value → Shared → Prop} (N : News h₀ L s.heap news) (hm : (T, W.listOf vs.toArray n) ∈ news) (hfit : vs.length ≤ 1000000)
    (h : Q (.int vs.length (s.toks + 1)) { s with toks := s.toks + 1 + 1 }) : wpAny (model prog w) A (call (.builtin "len") [.ref T]) Q E s := by
  refine len_list (items := vs.toArray) ⟨_, (N _ hm).1, rfl, _, rfl⟩ (by rw [List.size_toArray]; omega) ?_
  rw [List.size_toArray]
  exact h
theorem item_led {h₀ : Heap} {L T : Addr} {news : List (Addr × Obj)} {vs : List Value} {n : Nat} {k : Int} {u : Tok} {x : Value} {value slice : Expr} {Q : Value → Shared → Prop} (N : News h₀ L s.heap news) (hm : (T, W.listOf vs.toArray n) ∈ news) (hx : vs[k.toNat]? = some x) (h0 : 0 ≤ k) (hfit : vs.length ≤ 1000000)
    (h : Q x s)
    (hs : subscripted slice false (.ref T) (.int k u) = operate [.ref T, .int k u] (getItem (.ref T) (.int k u)) := by with_unfolding_all rfl) (hg : ∀ r, letTemporaryGo value (.ref T) r = pure () := by intro _; with_unfolding_all rfl) :
    wpAny (model prog w) A (subscriptTail value slice (.ref T) (.int k u)) Q E s := by
  have hk : k.toNat < vs.length := (List.getElem?_eq_some_iff.mp hx).1
  exact item_list (items := vs.toArray) ⟨_, (N _ hm).1, rfl, _, rfl⟩ h0 (by omega) (by rw [List.getElem?_toArray]; exact hx) h hs hg

end

local macro_rules | `(tactic| k_all) => `(tactic| assumption)
local macro_rules | `(tactic| walk_at "call builtin:len") => `(tactic| (k_here; (with_reducible show wpAny _ _ (call (Value.builtin "len") [Value.ref _]) _ _ _); k_dflt (refine' len_led ?N ?m ?f ?_; (case N => k_asm); (case m => k_mem); (case f => assumption); k_whole)))
local macro_rules | `(tactic| walk_at "setItem ref str") => `(tactic| (k_here; k_dflt (refine' setItem_K PyProof.V.same_str (strKind_is _ _ _ _) ?v ?F ?N ?U ?d ?f ?_ ?z; (case F => k_asm); (case N => k_asm); (case U => k_updF); (case d => k_asm); (case f => k_asm); (case z => (rw [PySem.sizeLine_eq]; omega)); (case v => k_flat)); intro h' o' F' N' hd' hf'; (try dsimp only at N'); (try k_sweep)))
local macro_rules | `(tactic| walk_at "call builtin:dict.get") => `(tactic| (k_here; k_dflt (refine' get_str ?k1 ?k2 ?_; (case k1 => k_tabat); (case k2 => assumption); k_whole); intro t9))

section
variable {w : World} {mean : ExcName → Option Value} {mg mb : Str → Option Value} {dp un : Nat} {gd : Option (List Code)} {cn : Str} {cs : Scope} {a : Addr} {ccd : Value} {cl : List (Str × Addr)} {outer : List Env} {A₀ : Around} {base h₀ : Heap} {L : Addr} {m : Str → Option Value} {s : Shared} {Q E : Value → Shared → Prop}

theorem atom_low {x dx T AD FL FD : Addr} {i1 i2 i3 i4 : Int} {k1 k2 k3 k4 : Tok} {tvs : List Value} {nT : Nat} {oAD : Obj} {kvs : List (Str × Value)} {D : List (PyData × PyData)} {tl : List (Addr × Obj)} {tx : Str} {tk : Tok} {k : Int}
  (B : Below A₀ base outer h₀) (F : Fr h₀ L s.heap m) (X : (hd.heap_1 w.params).In h₀)
  (N : News h₀ L s.heap ((x, instObj 154 dx) :: (dx, symD i1 i2 i3 i4 k1 k2 k3 k4 T AD FL FD) :: (T, W.listOf tvs.toArray nT) :: (AD, oAD) :: tl)) (Tp : Top hd.view_1 (looseW hd.view_1 []) mean mg mb h₀) (hk : cs.kind = .function)
  (e1 : @Ne Nat T x) (e2 : @Ne Nat T dx) (e3 : @Ne Nat T AD) (e4 : @Ne Nat AD x) (e5 : @Ne Nat AD dx) (e6 : ∀ p ∈ tl, p.1 ≠ T) (e7 : ∀ p ∈ tl, p.1 ≠ AD)
  (hAD : (AD == sysModules) = false) (hdc : oAD.IsDictOf (strKind PySem.Challenge.pw_rh0073_01 w) kvs) (hf : FlatPairs PyData.str kvs D) (hlen : tvs.length ≤ 1000000) (hDl : D.length ≤ 1000000)
  (hl : (Spec.lookup (PyData.str tx) D).getD (.int (-1)) = .int k) (hd' : dp + 2 < recursionLimit) (hu : un + 16 < cLine)
  (hhit : 0 ≤ k → ∀ t h' tk', Fr h₀ L h' m → News h₀ L h' ((x, instObj 154 dx) :: (dx, symD i1 i2 i3 i4 k1 k2 k3 k4 T AD FL FD) :: (T, W.listOf tvs.toArray nT) :: (AD, oAD) :: tl) → Q (.int k t) { s with heap := h', toks := tk' })
  (hnew : k < 0 → ∀ t t' h' tk' oAD', Fr h₀ L h' m → News h₀ L h' ((x, instObj 154 dx) :: (dx, symD i1 i2 i3 i4 k1 k2 k3 k4 T AD FL FD) :: (T, W.listOf (tvs.toArray.push (.str tx tk)) (nT + 1)) :: (AD, oAD') :: tl) →
    oAD'.IsDictOf (strKind PySem.Challenge.pw_rh0073_01 w) (stored kvs tx (.int tvs.length t')) → FlatPairs PyData.str (stored kvs tx (.int tvs.length t')) (putD (.str tx) (.int tvs.length) D) → Q (.int tvs.length t) { s with heap := h', toks := tk' }) :
  wpAny (model PySem.Challenge.pw_rh0073_01 w) (ktrTop dp un gd cn cs L a ccd cl outer) (call (.ref 88) [.ref x, .str tx tk]) Q E s := by
  refine wpAny_call ?_
  k_dflt cell_enter
  k_steps
  · exact hhit (by assumption) _ _ _ (by assumption) (by assumption)
  · exact hnew (by omega) _ _ _ _ _ (by assumption) (by assumption) (by assumption) (by assumption)
end
end Mine
end

section
open PySem PySem.W PySem.Spec PySem.Calls PyProof.Rows PyProof.V
set_option maxRecDepth 100000
set_option maxHeartbeats 8000000
namespace Mine

section
variable {prog : Program} {w : World} {K : Type} [DecidableEq K] {knd : KeyKind prog w K} {enc : K → PyData} {h₀ h : Heap} {L d a : Addr} {m : Str → Option Value} {news : List (Addr × Obj)} {D : List (PyData × PyData)} {ks : List K} {ok : Obj} {A : Around} {E : Value → Shared → Prop} {s : Shared}
theorem of_allLt {d : Addr} {l : List (Addr × Obj)} (h : AllLt d l) : ∀ p ∈ l, p.1 < d := by
  induction l with
  | nil => intro p hp; cases hp
  | cons q l ih =>
    intro p hp
    rcases List.mem_cons.mp hp with e | hp
    · rw [e]; exact h.1
    · exact ih h.2 p hp
theorem TupTab_mono {news news' : List (Addr × Obj)} (T : TupTab knd enc news d D) (hs : ∀ p ∈ news, p ∈ news') : TupTab knd enc news' d D :=
  let ⟨lo, o, es, ep, xs, hm, hc, hd, he, hn, hk, hf⟩ := T
  ⟨lo, o, es, ep, xs, hs _ hm, hc, hd, he, hn, fun x hx => let ⟨okx, hmk, t⟩ := hk x hx; ⟨okx, hs _ hmk, t⟩, hf⟩

structure SubL (a b : List (Addr × Obj)) : Prop where
  out : ∀ p ∈ a, p ∈ b

theorem set_tup {g : Obj → List (Addr × Obj)} {tq : List (Addr × Obj)} {oF : Obj} {v : Value} {dv : PyData} {Q : Unit → Shared → Prop} (henc : ∀ a b, same (enc a) (enc b) = decide (a = b)) (hu : A.units + 1 < cLine) (hv : Flat v dv)
    (F : Fr h₀ L s.heap m) (N : News h₀ L s.heap news) (U : UpdF d oF news g) (T : TupTab knd enc ((d, oF) :: tq) d D) (hsub : ∀ p ∈ (d, oF) :: tq, p ∈ news) (hka : (a, ok) ∈ news) (tk : TupKeyObj knd ks ok) (hsz : D.length ≤ 1000000)
    (h : ∀ h' o', Fr h₀ L h' m → News h₀ L h' (g o') → TupTab knd enc ((d, o') :: (a, ok) :: tq) d (putD (encTuple enc ks) dv D) → Q () { s with heap := h', toks := s.toks + (ks.length + 1) }) :
    wpAny (model prog w) A (setItem (.ref d) (.ref a) v) Q E s := by
  obtain ⟨lo, o, es, ep, xs, hm, hc, hd, he, hn, hk, hf⟩ := T
  have hD : s.heap.DictOfH (tupleKind knd) d xs := ⟨o, es, ep, N.get (hsub _ hm), hc, hd, he, fun x hx => let ⟨_, hmk, t⟩ := hk x hx; t.key (N.get (hsub _ hmk)), hn⟩
  have hne : ∀ {b : Addr} {ob : Obj} {ks' : List K}, (b, ob) ∈ (d, oF) :: tq → TupKeyObj knd ks' ob → b ≠ d := by
    intro b ob ks' hb t e
    subst e
    obtain rfl : ob = o := Option.some.inj ((N.get (hsub _ hb)).symm.trans (N.get (hsub _ hm)))
    have h1 := t.1
    rw [hc.1] at h1
    injection h1 with h2
    exact absurd h2 (by decide)
  have hxs : xs.length ≤ sizeLine := by
    have e := hf.length
    simp only [kvsOf, List.length_map] at e
    rw [sizeLine_eq]
    omega
  obtain ⟨pre, post, rfl, hg, n1, n2⟩ := U.split
  refine wpAny_setItem_heap (hsz := hxs) (knd := tupleKind knd) (tupleKind_room_in1 hu) (tk.key (N.get hka)) hD fun h' hm' hs => ?_
  obtain ⟨o', es', ep', ho', hc', hd', he', _, hn'⟩ := hm'
  have N' : News h₀ L h' (g o') := by
    intro p hp
    rw [hg] at hp
    rcases List.mem_append.mp hp with hp | hp
    · have z := N p (List.mem_append_left _ hp)
      exact ⟨(hs.2 _ (n1 p hp)).trans z.1, z.2⟩
    · rcases List.mem_cons.mp hp with rfl | hp
      · have z := N (d, oF) (List.mem_append_right _ (.head _))
        exact ⟨ho', z.2⟩
      · have z := N p (List.mem_append_right _ (.tail _ hp))
        exact ⟨(hs.2 _ (n2 p hp)).trans z.1, z.2⟩
  refine h h' o' (F.change hs (N _ (hsub _ hm)).2.1 (N.fresh (hsub _ hm))) N'
    ⟨lo, o', es', ep', storedH xs ks a v, .head _, hc', hd', he', hn', fun x hx => ?_, by rw [kvsOf_storedH]; exact hf.stored (same_encTuple henc) ks hv⟩
  rcases mem_storedH hx with ⟨y, hy, e1, e2⟩ | ⟨e1, e2⟩
  · obtain ⟨oky, hmk, t⟩ := hk y hy
    refine ⟨oky, ?_, by rw [e1]; exact t⟩
    rw [e2]
    rcases List.mem_cons.mp hmk with q | q
    · exact absurd (congrArg Prod.fst q) (hne hmk t)
    · exact .tail _ (.tail _ q)
  · exact ⟨ok, by rw [e2]; exact .tail _ (.head _), by rw [e1]; exact tk⟩

theorem get_tup {h₀ : Heap} {news nq : List (Addr × Obj)} {D : List (PyData × PyData)} {ks : List Int} {j k : Int} {u : Tok} {ok : Obj} {d a : Addr} {Q : Value → Shared → Prop} (hu : A.units + 1 < cLine) (N : News h₀ L s.heap news)
    (T : TupTab (intKind prog w) PyData.int nq d D) (hs : ∀ p ∈ nq, p ∈ news) (hka : (a, ok) ∈ news) (tk : TupKeyObj (intKind prog w) ks ok) (hl : (Spec.lookup (encTuple PyData.int ks) D).getD (.int j) = .int k)
    (h : ∀ t' tk', Q (.int k t') { s with toks := tk' }) : wpAny (model prog w) A (call (.builtin "dict.get") [.ref d, .ref a, .int j u]) Q E s :=
  call_get2_tupTab (knd := intKind prog w) (enc := PyData.int) same_int hu N (TupTab_mono T hs) hka tk (Flat.int j u) fun v hv => by
    rw [hl] at hv
    obtain ⟨t', rfl⟩ := Flat.int_inv hv
    exact h t' _
theorem meth_tup {h₀ : Heap} {news nq : List (Addr × Obj)} {D : List (PyData × PyData)} {d : Addr} {pl : Sem Bool} {Q : Value × List Value → Shared → Prop} (N : News h₀ L s.heap news)
    (T : TupTab (intKind prog w) PyData.int nq d D) (hs : ∀ p ∈ nq, p ∈ news) (h : Q (.builtin "dict.get", [.ref d]) s) : wpAny (model prog w) A (getMethod (.ref d) "get" pl) Q E s :=
  getMethod_tupTab_get N (TupTab_mono T hs) h
end

local macro_rules | `(tactic| k_all) => `(tactic| assumption)
local macro_rules | `(tactic| walk_at "call builtin:len") => `(tactic| (k_here; (with_reducible show wpAny _ _ (call (Value.builtin "len") [Value.ref _]) _ _ _); k_dflt (refine' len_led ?N ?m ?f ?_; (case N => k_asm); (case m => k_mem); (case f => assumption); k_whole)))
local macro_rules | `(tactic| walk_at "getMethod ref") => `(tactic| (k_here; k_dflt (refine' meth_tup ?N ?T ?s ?_; (case N => k_asm); (case T => assumption); (case s => (intro p9 h9; rcases List.mem_cons.mp h9 with h9 | h9; (simp only [h9, List.mem_cons, true_or, or_true]); ((have h8 := SubL.out (by assumption) p9 h9); (simp only [h8, List.mem_cons, true_or, or_true])))); k_whole)))
local macro_rules | `(tactic| walk_at "call builtin:dict.get") => `(tactic| (k_here; k_dflt (refine' get_tup ?u ?N ?T ?s ?m ?tk ?l ?_; (case u => ktr_units); (case N => k_asm); (case T => assumption); (case s => (intro p9 h9; rcases List.mem_cons.mp h9 with h9 | h9; (simp only [h9, List.mem_cons, true_or, or_true]); ((have h8 := SubL.out (by assumption) p9 h9); (simp only [h8, List.mem_cons, true_or, or_true])))); (case m => k_mem); (case tk => exact TupKeyObj.made (ItemsAre.cons (intKind_is _ _ _ _) (ItemsAre.cons (intKind_is _ _ _ _) ItemsAre.nil))); (case l => assumption); k_whole); intro t9 k9))
local macro_rules | `(tactic| walk_at "setItem ref ref") => `(tactic| (k_here; k_dflt (refine' set_tup same_int ?u ?v ?F ?N ?U ?T ?s ?m ?tk ?z ?_; (case u => ktr_units); (case v => k_flat); (case F => k_asm); (case N => k_asm); (case U => k_updF); (case T => assumption); (case s => (intro p9 h9; rcases List.mem_cons.mp h9 with h9 | h9; (simp only [h9, List.mem_cons, true_or, or_true]); ((have h8 := SubL.out (by assumption) p9 h9); (simp only [h8, List.mem_cons, true_or, or_true])))); (case m => k_mem); (case tk => exact TupKeyObj.made (ItemsAre.cons (intKind_is _ _ _ _) (ItemsAre.cons (intKind_is _ _ _ _) ItemsAre.nil))); (case z => assumption); k_whole); intro h' o' F' N' T'; (try dsimp only at N' T'); (try k_sweep)))

section
variable {w : World} {mean : ExcName → Option Value} {mg mb : Str → Option Value} {dp un : Nat} {gd : Option (List Code)} {cn : Str} {cs : Scope} {a : Addr} {ccd : Value} {cl : List (Str × Addr)} {outer : List Env} {A₀ : Around} {base h₀ : Heap} {L : Addr} {m : Str → Option Value} {s : Shared} {Q E : Value → Shared → Prop}

theorem functor_low {x dx T AD FL FD : Addr} {i1 i2 i3 i4 : Int} {k1 k2 k3 k4 : Tok} {fvs : List Value} {nF : Nat} {oFD : Obj} {D : List (PyData × PyData)} {tl tq : List (Addr × Obj)} {an ar : Int} {tn tr : Tok} {k : Int}
  (B : Below A₀ base outer h₀) (F : Fr h₀ L s.heap m) (X : (hd.heap_1 w.params).In h₀)
  (N : News h₀ L s.heap ((x, instObj 154 dx) :: (dx, symD i1 i2 i3 i4 k1 k2 k3 k4 T AD FL FD) :: (FL, W.listOf fvs.toArray nF) :: (FD, oFD) :: tl)) (Tp : Top hd.view_1 (looseW hd.view_1 []) mean mg mb h₀) (hk : cs.kind = .function)
  (e1 : @Ne Nat FL x) (e2 : @Ne Nat FL dx) (e3 : @Ne Nat FL FD) (e4 : @Ne Nat FD x) (e5 : @Ne Nat FD dx) (e6 : ∀ p ∈ tl, p.1 ≠ FL) (e7 : ∀ p ∈ tl, p.1 ≠ FD)
  (Tq : TupTab (intKind PySem.Challenge.pw_rh0073_01 w) PyData.int ((FD, oFD) :: tq) FD D) (hq : SubL tq tl) (hlen : fvs.length ≤ 1000000) (hDl : D.length ≤ 1000000)
  (hl : (Spec.lookup (encTuple PyData.int [an, ar]) D).getD (.int (-1)) = .int k) (hd' : dp + 2 < recursionLimit) (hu : un + 16 < cLine)
  (hhit : 0 ≤ k → ∀ t h' tk', Fr h₀ L h' m → News h₀ L h' ((x, instObj 154 dx) :: (dx, symD i1 i2 i3 i4 k1 k2 k3 k4 T AD FL FD) :: (FL, W.listOf fvs.toArray nF) :: (FD, oFD) :: tl) → Q (.int k t) { s with heap := h', toks := tk' })
  (hnew : k < 0 → ∀ key t h' tk' oFD' ta tb, (∀ p ∈ (x, instObj 154 dx) :: (dx, symD i1 i2 i3 i4 k1 k2 k3 k4 T AD FL FD) :: (FL, W.listOf fvs.toArray nF) :: (FD, oFD) :: tl, p.1 < key) → Fr h₀ L h' m →
    News h₀ L h' ((key, tupO [.int an ta, .int ar tb]) :: (x, instObj 154 dx) :: (dx, symD i1 i2 i3 i4 k1 k2 k3 k4 T AD FL FD) :: (FL, W.listOf (fvs.toArray.push (.ref key)) (nF + 1)) :: (FD, oFD') :: tl) →
    TupTab (intKind PySem.Challenge.pw_rh0073_01 w) PyData.int ((FD, oFD') :: (key, tupO [.int an ta, .int ar tb]) :: tq) FD (putD (encTuple PyData.int [an, ar]) (.int fvs.length) D) →
    Q (.int fvs.length t) { s with heap := h', toks := tk' }) :
  wpAny (model PySem.Challenge.pw_rh0073_01 w) (ktrTop dp un gd cn cs L a ccd cl outer) (call (.ref 102) [.ref x, .int an tn, .int ar tr]) Q E s := by
  refine wpAny_call ?_
  k_dflt cell_enter
  k_steps
  · (with_reducible rename News _ _ _ _ => nE)
    (with_reducible rename Fr _ _ _ _ => fE)
    have hk0 : 0 ≤ k := by omega
    exact hhit hk0 _ _ _ fE (fun p hp => nE p (.tail _ hp))
  · (with_reducible rename News _ _ _ _ => nE)
    (with_reducible rename Fr _ _ _ _ => fE)
    (with_reducible rename TupTab _ _ _ _ _ => tE)
    have hk0 : k < 0 := by omega
    refine hnew hk0 _ _ _ _ _ _ _ (of_allLt ?_) fE nE tE
    simp only [AllLt]
    with_reducible assumption
end
end Mine
end

section
open PySem PySem.W PySem.Spec PySem.Calls PyProof.Rows PyProof.V
set_option maxRecDepth 100000
set_option maxHeartbeats 8000000
namespace Mine

/-! tables as lists with their places -/
def idxD {α : Type} (enc : α → PyData) (l : List α) : List (PyData × PyData) := l.zipIdx.map fun p => (enc p.1, .int p.2)
section
variable {α : Type} [DecidableEq α] {enc : α → PyData}
theorem idxD_length (l : List α) : (idxD enc l).length = l.length := by simp [idxD]
theorem lookup_from (henc : ∀ a b, same (enc a) (enc b) = decide (a = b)) (x : α) : ∀ (l : List α) (n : Nat), x ∉ l → Spec.lookup (enc x) ((l.zipIdx n).map fun p => (enc p.1, PyData.int p.2)) = none := by
  intro l
  induction l with
  | nil => intro n _; rfl
  | cons a l ih =>
    intro n h
    have h1 : a ≠ x := fun e => h (e ▸ List.mem_cons_self ..)
    have h2 : x ∉ l := fun e => h (List.mem_cons_of_mem _ e)
    simp only [List.zipIdx_cons, List.map_cons, Spec.lookup, henc, h1, decide_false, Bool.false_eq_true, if_false]
    exact ih (n + 1) h2
theorem lookup_none (henc : ∀ a b, same (enc a) (enc b) = decide (a = b)) {x : α} {l : List α} (h : x ∉ l) : Spec.lookup (enc x) (idxD enc l) = none := lookup_from henc x l 0 h
theorem lookup_some (henc : ∀ a b, same (enc a) (enc b) = decide (a = b)) (x : α) : ∀ (l : List α) (n k : Nat), l.Nodup → l[k]? = some x → Spec.lookup (enc x) ((l.zipIdx n).map fun p => (enc p.1, PyData.int p.2)) = some (.int ((n + k : Nat) : Int)) := by
  intro l
  induction l with
  | nil => intro n k _ h; simp at h
  | cons a l ih =>
    intro n k hn h
    cases k with
    | zero =>
      simp only [List.getElem?_cons_zero, Option.some.injEq] at h
      subst h
      simp [List.zipIdx_cons, Spec.lookup, henc]
    | succ k =>
      simp only [List.getElem?_cons_succ] at h
      have hx : x ∈ l := List.mem_of_getElem? h
      have h1 : a ≠ x := fun e => (List.nodup_cons.mp hn).1 (e ▸ hx)
      simp only [List.zipIdx_cons, List.map_cons, Spec.lookup, henc, h1, decide_false, Bool.false_eq_true, if_false]
      rw [ih (n + 1) k (List.nodup_cons.mp hn).2 h]
      congr 3
      omega
theorem lookup_at (henc : ∀ a b, same (enc a) (enc b) = decide (a = b)) {x : α} {l : List α} {k : Nat} (hn : l.Nodup) (h : l[k]? = some x) : Spec.lookup (enc x) (idxD enc l) = some (.int k) := by
  have := lookup_some henc x l 0 k hn h
  rwa [Nat.zero_add] at this
theorem putD_new (henc : ∀ a b, same (enc a) (enc b) = decide (a = b)) {x : α} {l : List α} (h : x ∉ l) : putD (enc x) (.int l.length) (idxD enc l) = idxD enc (l ++ [x]) := by
  unfold putD
  have : (idxD enc l).any (fun p => same p.1 (enc x)) = false := by
    rw [Bool.eq_false_iff]
    intro q
    obtain ⟨p, hp, e⟩ := List.any_eq_true.mp q
    obtain ⟨y, hy, rfl⟩ := List.mem_map.mp hp
    rw [henc, decide_eq_true_eq] at e
    exact h (e ▸ (List.fst_mem_of_mem_zipIdx hy))
  rw [this]
  simp [idxD, List.zipIdx_append]
end

abbrev encF (f : Int × Int) : PyData := encTuple PyData.int [f.1, f.2]
theorem same_encF (a b : Int × Int) : same (encF a) (encF b) = decide (a = b) := by
  rw [same_encTuple same_int]
  obtain ⟨a1, a2⟩ := a
  obtain ⟨b1, b2⟩ := b
  simp [Prod.mk.injEq]
abbrev atomsD (l : List Str) : List (PyData × PyData) := idxD PyData.str l
abbrev fnsD (l : List (Int × Int)) : List (PyData × PyData) := idxD encF l

/-- the symbols' table on the ledger -/
def SymR (w : World) (tab : List (Addr × Obj)) (x : Addr) (texts : List Str) (fs : List (Int × Int)) : Prop :=
  ∃ (dx T AD FL FD : Addr) (i1 i2 i3 i4 : Int) (k1 k2 k3 k4 : Tok) (tvs : List Value) (nT : Nat) (oAD : Obj) (kvs : List (Str × Value)) (fvs : List Value) (nF : Nat) (oFD : Obj) (tups : List (Addr × Obj)),
    tab = (x, instObj 154 dx) :: (dx, symD i1 i2 i3 i4 k1 k2 k3 k4 T AD FL FD) :: (T, W.listOf tvs.toArray nT) :: (AD, oAD) :: (FL, W.listOf fvs.toArray nF) :: (FD, oFD) :: tups ∧
    DatAll [] tvs (texts.map Dat.str) ∧ DatAll tups fvs (fs.map fun f => Dat.tuple [.int f.1, .int f.2]) ∧
    (AD == sysModules) = false ∧ oAD.IsDictOf (strKind PySem.Challenge.pw_rh0073_01 w) kvs ∧ FlatPairs PyData.str kvs (atomsD texts) ∧
    TupTab (intKind PySem.Challenge.pw_rh0073_01 w) PyData.int ((FD, oFD) :: tups) FD (fnsD fs) ∧
    (tab.map (·.1)).Nodup ∧ texts.Nodup ∧ fs.Nodup

structure Apart (pre tab : List (Addr × Obj)) : Prop where
  at_ : ∀ p ∈ pre, ∀ q ∈ tab, q.1 ≠ p.1
inductive TailF (tab : List (Addr × Obj)) : List (Addr × Obj) → List (Addr × Obj) → Prop
  | nil : TailF tab tab []
  | app {pre} : Apart pre tab → TailF tab (pre ++ tab) pre
  | cons {p news pre} : (∀ q ∈ tab, q.1 ≠ p.1) → TailF tab news pre → TailF tab (p :: news) (p :: pre)
theorem TailF.split {tab news pre : List (Addr × Obj)} (G : TailF tab news pre) : news = pre ++ tab ∧ Apart pre tab := by
  induction G with
  | nil => exact ⟨rfl, ⟨fun _ h => nomatch h⟩⟩
  | app h => exact ⟨rfl, h⟩
  | cons h _ ih =>
    refine ⟨by rw [ih.1]; rfl, ⟨fun p hp q hq => ?_⟩⟩
    rcases List.mem_cons.mp hp with e | hp
    · rw [e]; exact h q hq
    · exact ih.2.at_ p hp q hq
/-- what a change of the table keeps -/
structure Grows (news tab tab' : List (Addr × Obj)) : Prop where
  at_ : ∀ q ∈ tab', (∃ q₀ ∈ tab, q.1 = q₀.1) ∨ ∀ p ∈ news, p.1 < q.1
theorem Grows.apart {pre tab tab' : List (Addr × Obj)} (h : Grows (pre ++ tab) tab tab') (a : Apart pre tab) : Apart pre tab' := ⟨fun p hp q hq => by
  rcases h.at_ q hq with ⟨q₀, h0, e⟩ | h
  · rw [e]; exact a.at_ p hp q₀ h0
  · exact Nat.ne_of_gt (h p (List.mem_append_left _ hp))⟩
end Mine
end

section
open PySem PySem.W PySem.Spec PySem.Calls PyProof.Rows PyProof.V
set_option maxRecDepth 100000
set_option maxHeartbeats 8000000
namespace Mine

theorem Apart.of_map {pre tab tab' : List (Addr × Obj)} (e : tab'.map (·.1) = tab.map (·.1)) (a : Apart pre tab) : Apart pre tab' := ⟨fun p hp q hq => by
  have hm : q.1 ∈ tab.map (·.1) := e ▸ List.mem_map_of_mem hq
  obtain ⟨q₀, h0, e0⟩ := List.mem_map.mp hm
  rw [← e0]
  exact a.at_ p hp q₀ h0⟩

section
variable {w : World} {mean : ExcName → Option Value} {mg mb : Str → Option Value} {dp un : Nat} {gd : Option (List Code)} {cn : Str} {cs : Scope} {a : Addr} {ccd : Value} {cl : List (Str × Addr)} {outer : List Env} {A₀ : Around} {base h₀ : Heap} {L : Addr} {m : Str → Option Value} {s : Shared} {Q E : Value → Shared → Prop}
variable {tab news pre : List (Addr × Obj)} {x : Addr} {texts : List Str} {fs : List (Int × Int)}

theorem atomS {tx : Str} {tk : Tok}
  (B : Below A₀ base outer h₀) (F : Fr h₀ L s.heap m) (X : (hd.heap_1 w.params).In h₀) (N : News h₀ L s.heap news) (G : TailF tab news pre) (S : SymR w tab x texts fs)
  (Tp : Top hd.view_1 (looseW hd.view_1 []) mean mg mb h₀) (hk : cs.kind = .function) (hlen : texts.length ≤ 100000) (hd' : dp + 2 < recursionLimit) (hu : un + 16 < cLine)
  (hret : ∀ (k : Nat) t h' tk' tab' texts', SymR w tab' x texts' fs → texts <+: texts' → texts'.length ≤ texts.length + 1 → texts'[k]? = some tx → Fr h₀ L h' m → News h₀ L h' (pre ++ tab') → Apart pre tab' → Q (.int (k : Int) t) { s with heap := h', toks := tk' }) :
  wpAny (model PySem.Challenge.pw_rh0073_01 w) (ktrTop dp un gd cn cs L a ccd cl outer) (call (.ref 88) [.ref x, .str tx tk]) Q E s := by
  obtain ⟨rfl, hA⟩ := G.split
  have S0 := S
  obtain ⟨dx, T, AD, FL, FD, i1, i2, i3, i4, k1, k2, k3, k4, tvs, nT, oAD, kvs, fvs, nF, oFD, tups, rfl, dT, dF, lo, hdc, hf, TT, nd, nt, nf⟩ := S
  have nd0 := nd
  simp only [List.map_cons, List.nodup_cons, List.mem_cons, not_or] at nd
  obtain ⟨⟨n01, n02, n03, n04, n05, n06⟩, ⟨n12, n13, n14, n15, n16⟩, ⟨n23, n24, n25, n26⟩, ⟨n34, n35, n36⟩, ⟨n45, n46⟩, n56, _⟩ := nd
  have hlT : tvs.length = texts.length := by rw [dT.length, List.length_map]
  have mt : ∀ p ∈ tups, p.1 ∈ tups.map (·.1) := fun p hp => List.mem_map_of_mem hp
  have apT := fun p hp => hA.at_ p hp (T, W.listOf tvs.toArray nT) (by simp)
  have apA := fun p hp => hA.at_ p hp (AD, oAD) (by simp)
  have e6 : ∀ p ∈ (FL, W.listOf fvs.toArray nF) :: (FD, oFD) :: (tups ++ pre), p.1 ≠ T := by
    intro p hp
    simp only [List.mem_cons, List.mem_append] at hp
    rcases hp with rfl | rfl | h | h
    · exact Ne.symm n24
    · exact Ne.symm n25
    · exact fun e => n26 (e ▸ mt p h)
    · exact (apT p h).symm
  have e7 : ∀ p ∈ (FL, W.listOf fvs.toArray nF) :: (FD, oFD) :: (tups ++ pre), p.1 ≠ AD := by
    intro p hp
    simp only [List.mem_cons, List.mem_append] at hp
    rcases hp with rfl | rfl | h | h
    · exact Ne.symm n34
    · exact Ne.symm n35
    · exact fun e => n36 (e ▸ mt p h)
    · exact (apA p h).symm
  have hin : ∀ p ∈ (x, instObj 154 dx) :: (dx, symD i1 i2 i3 i4 k1 k2 k3 k4 T AD FL FD) :: (T, W.listOf tvs.toArray nT) :: (AD, oAD) :: (FL, W.listOf fvs.toArray nF) :: (FD, oFD) :: (tups ++ pre), p ∈ pre ++ (x, instObj 154 dx) :: (dx, symD i1 i2 i3 i4 k1 k2 k3 k4 T AD FL FD) :: (T, W.listOf tvs.toArray nT) :: (AD, oAD) :: (FL, W.listOf fvs.toArray nF) :: (FD, oFD) :: tups := by
    intro p hp
    simp only [List.mem_cons, List.mem_append] at hp ⊢
    rcases hp with h | h | h | h | h | h | h | h <;> simp only [h, true_or, or_true]
  by_cases hx : tx ∈ texts
  · obtain ⟨k, hkt⟩ := List.getElem?_of_mem hx
    have hl : (Spec.lookup (PyData.str tx) (atomsD texts)).getD (.int (-1)) = .int (k : Int) := by rw [lookup_at same_str nt hkt]; rfl
    refine atom_low (k := (k : Int)) B F X (fun p hp => N p (hin p hp)) Tp hk (Ne.symm n02) (Ne.symm n12) n23 (Ne.symm n03) (Ne.symm n13) e6 e7 lo hdc hf (by omega) (by rw [idxD_length]; omega) hl hd' hu
      (fun _ t h' tk' F' N' => hret k t h' tk' _ texts S0 (List.prefix_refl _) (by omega) hkt F' (fun p hp => N' p ?_) hA) (fun h => absurd h (by omega))
    simp only [List.mem_cons, List.mem_append] at hp ⊢
    rcases hp with h | h | h | h | h | h | h | h <;> simp only [h, true_or, or_true]
  · have hl : (Spec.lookup (PyData.str tx) (atomsD texts)).getD (.int (-1)) = .int (-1) := by rw [lookup_none same_str hx]; rfl
    refine atom_low (k := -1) B F X (fun p hp => N p (hin p hp)) Tp hk (Ne.symm n02) (Ne.symm n12) n23 (Ne.symm n03) (Ne.symm n13) e6 e7 lo hdc hf (by omega) (by rw [idxD_length]; omega) hl hd' hu
      (fun h => absurd h (by omega)) (fun _ t t' h' tk' oAD' F' N' hd2 hf2 => ?_)
    rw [hlT] at hf2
    rw [putD_new same_str hx] at hf2
    rw [hlT]
    refine hret texts.length t h' tk' ((x, instObj 154 dx) :: (dx, symD i1 i2 i3 i4 k1 k2 k3 k4 T AD FL FD) :: (T, W.listOf (tvs ++ [Value.str tx tk]).toArray (nT + 1)) :: (AD, oAD') :: (FL, W.listOf fvs.toArray nF) :: (FD, oFD) :: tups) (texts ++ [tx])
      ⟨dx, T, AD, FL, FD, i1, i2, i3, i4, k1, k2, k3, k4, tvs ++ [Value.str tx tk], nT + 1, oAD', _, fvs, nF, oFD, tups, rfl, ?_, dF, lo, hd2, ?_, TT, nd0, ?_, nf⟩ (List.prefix_append _ _) (by simp) (by simp) F' (fun p hp => N' p ?_) (hA.of_map (by rfl))
    · rw [List.map_append]
      exact dT.append (.one (.str tx tk))
    · rw [hlT]; exact hf2
    · rw [List.nodup_append]
      exact ⟨nt, by simp, fun a ha b hb => by simp at hb; subst hb; exact fun e => hx (e ▸ ha)⟩
    · rw [List.push_toArray]
      simp only [List.mem_cons, List.mem_append] at hp ⊢
      rcases hp with h | h | h | h | h | h | h | h <;> simp only [h, true_or, or_true]

theorem functorS {an ar : Int} {tn tr : Tok}
  (B : Below A₀ base outer h₀) (F : Fr h₀ L s.heap m) (X : (hd.heap_1 w.params).In h₀) (N : News h₀ L s.heap news) (G : TailF tab news pre) (S : SymR w tab x texts fs)
  (Tp : Top hd.view_1 (looseW hd.view_1 []) mean mg mb h₀) (hk : cs.kind = .function) (hlen : fs.length ≤ 100000) (hd' : dp + 2 < recursionLimit) (hu : un + 16 < cLine)
  (hret : ∀ (k : Nat) t h' tk' tab' fs', SymR w tab' x texts fs' → fs <+: fs' → fs'.length ≤ fs.length + 1 → fs'[k]? = some (an, ar) → Fr h₀ L h' m → News h₀ L h' (pre ++ tab') → Apart pre tab' → Q (.int (k : Int) t) { s with heap := h', toks := tk' }) :
  wpAny (model PySem.Challenge.pw_rh0073_01 w) (ktrTop dp un gd cn cs L a ccd cl outer) (call (.ref 102) [.ref x, .int an tn, .int ar tr]) Q E s := by
  obtain ⟨rfl, hA⟩ := G.split
  have S0 := S
  obtain ⟨dx, T, AD, FL, FD, i1, i2, i3, i4, k1, k2, k3, k4, tvs, nT, oAD, kvs, fvs, nF, oFD, tups, rfl, dT, dF, lo, hdc, hf, TT, nd, nt, nf⟩ := S
  have nd0 := nd
  simp only [List.map_cons, List.nodup_cons, List.mem_cons, not_or] at nd
  obtain ⟨⟨n01, n02, n03, n04, n05, n06⟩, ⟨n12, n13, n14, n15, n16⟩, ⟨n23, n24, n25, n26⟩, ⟨n34, n35, n36⟩, ⟨n45, n46⟩, n56, n60⟩ := nd
  have hlF : fvs.length = fs.length := by rw [dF.length, List.length_map]
  have mt : ∀ p ∈ tups, p.1 ∈ tups.map (·.1) := fun p hp => List.mem_map_of_mem hp
  have apL := fun p hp => hA.at_ p hp (FL, W.listOf fvs.toArray nF) (by simp)
  have apD := fun p hp => hA.at_ p hp (FD, oFD) (by simp)
  have e6 : ∀ p ∈ (T, W.listOf tvs.toArray nT) :: (AD, oAD) :: (tups ++ pre), p.1 ≠ FL := by
    intro p hp
    simp only [List.mem_cons, List.mem_append] at hp
    rcases hp with rfl | rfl | h | h
    · exact n24
    · exact n34
    · exact fun e => n46 (e ▸ mt p h)
    · exact (apL p h).symm
  have e7 : ∀ p ∈ (T, W.listOf tvs.toArray nT) :: (AD, oAD) :: (tups ++ pre), p.1 ≠ FD := by
    intro p hp
    simp only [List.mem_cons, List.mem_append] at hp
    rcases hp with rfl | rfl | h | h
    · exact n25
    · exact n35
    · exact fun e => n56 (e ▸ mt p h)
    · exact (apD p h).symm
  have hq : SubL tups ((T, W.listOf tvs.toArray nT) :: (AD, oAD) :: (tups ++ pre)) := ⟨fun p hp => by simp only [List.mem_cons, List.mem_append, hp, true_or, or_true]⟩
  have hin : ∀ p ∈ (x, instObj 154 dx) :: (dx, symD i1 i2 i3 i4 k1 k2 k3 k4 T AD FL FD) :: (FL, W.listOf fvs.toArray nF) :: (FD, oFD) :: (T, W.listOf tvs.toArray nT) :: (AD, oAD) :: (tups ++ pre), p ∈ pre ++ (x, instObj 154 dx) :: (dx, symD i1 i2 i3 i4 k1 k2 k3 k4 T AD FL FD) :: (T, W.listOf tvs.toArray nT) :: (AD, oAD) :: (FL, W.listOf fvs.toArray nF) :: (FD, oFD) :: tups := by
    intro p hp
    simp only [List.mem_cons, List.mem_append] at hp ⊢
    rcases hp with h | h | h | h | h | h | h | h <;> simp only [h, true_or, or_true]
  by_cases hx : (an, ar) ∈ fs
  · obtain ⟨k, hkt⟩ := List.getElem?_of_mem hx
    have hl : (Spec.lookup (encTuple PyData.int [an, ar]) (fnsD fs)).getD (.int (-1)) = .int (k : Int) := by rw [show encTuple PyData.int [an, ar] = encF (an, ar) from rfl, lookup_at same_encF nf hkt]; rfl
    refine functor_low (k := (k : Int)) B F X (fun p hp => N p (hin p hp)) Tp hk (Ne.symm n04) (Ne.symm n14) n45 (Ne.symm n05) (Ne.symm n15) e6 e7 TT hq (by omega) (by rw [idxD_length]; omega) hl hd' hu
      (fun _ t h' tk' F' N' => hret k t h' tk' _ fs S0 (List.prefix_refl _) (by omega) hkt F' (fun p hp => N' p ?_) hA) (fun h => absurd h (by omega))
    simp only [List.mem_cons, List.mem_append] at hp ⊢
    rcases hp with h | h | h | h | h | h | h | h <;> simp only [h, true_or, or_true]
  · have hl : (Spec.lookup (encTuple PyData.int [an, ar]) (fnsD fs)).getD (.int (-1)) = .int (-1) := by rw [show encTuple PyData.int [an, ar] = encF (an, ar) from rfl, lookup_none same_encF hx]; rfl
    refine functor_low (k := -1) B F X (fun p hp => N p (hin p hp)) Tp hk (Ne.symm n04) (Ne.symm n14) n45 (Ne.symm n05) (Ne.symm n15) e6 e7 TT hq (by omega) (by rw [idxD_length]; omega) hl hd' hu
      (fun h => absurd h (by omega)) (fun _ key t h' tk' oFD' ta tb hfr F' N' T' => ?_)
    rw [hlF, show encTuple PyData.int [an, ar] = encF (an, ar) from rfl, putD_new same_encF hx] at T'
    rw [hlF]
    have hkey : ∀ p ∈ pre ++ (x, instObj 154 dx) :: (dx, symD i1 i2 i3 i4 k1 k2 k3 k4 T AD FL FD) :: (T, W.listOf tvs.toArray nT) :: (AD, oAD) :: (FL, W.listOf fvs.toArray nF) :: (FD, oFD) :: tups, p.1 < key := by
      intro p hp
      refine hfr p ?_
      simp only [List.mem_cons, List.mem_append] at hp ⊢
      rcases hp with h | h | h | h | h | h | h | h <;> simp only [h, true_or, or_true]
    have hkn : ∀ {b : Addr}, b ∈ (((x, instObj 154 dx) :: (dx, symD i1 i2 i3 i4 k1 k2 k3 k4 T AD FL FD) :: (T, W.listOf tvs.toArray nT) :: (AD, oAD) :: (FL, W.listOf fvs.toArray nF) :: (FD, oFD) :: tups : List (Addr × Obj)).map (·.1)) → b ≠ key := by
      intro b hb
      obtain ⟨q, hq, rfl⟩ := List.mem_map.mp hb
      exact Nat.ne_of_lt (hkey q (List.mem_append_right _ hq))
    refine hret fs.length t h' tk' ((x, instObj 154 dx) :: (dx, symD i1 i2 i3 i4 k1 k2 k3 k4 T AD FL FD) :: (T, W.listOf tvs.toArray nT) :: (AD, oAD) :: (FL, W.listOf (fvs ++ [Value.ref key]).toArray (nF + 1)) :: (FD, oFD') :: (key, tupO [.int an ta, .int ar tb]) :: tups) (fs ++ [(an, ar)])
      ⟨dx, T, AD, FL, FD, i1, i2, i3, i4, k1, k2, k3, k4, tvs, nT, oAD, kvs, fvs ++ [Value.ref key], nF + 1, oFD', (key, tupO [.int an ta, .int ar tb]) :: tups, rfl, dT, ?_, lo, hdc, hf, T', ?_, nt, ?_⟩ (List.prefix_append _ _) (by simp) (by simp) F' (fun p hp => N' p ?_) ⟨fun p hp q hq => ?_⟩
    · rw [List.map_append]
      exact (dF.mono fun p hp => .tail _ hp).append (.one (.tuple (.head _) (.cons (.int _ _) (.cons (.int _ _) .nil))))
    · have k0 := hkn (b := x) (by simp)
      have k1' := hkn (b := dx) (by simp)
      have k2' := hkn (b := T) (by simp)
      have k3' := hkn (b := AD) (by simp)
      have k4' := hkn (b := FL) (by simp)
      have k5' := hkn (b := FD) (by simp)
      have k6' : key ∉ tups.map (·.1) := fun h => hkn (b := key) (by simp only [List.map_cons, List.mem_cons, h, or_true]) rfl
      simp only [List.map_cons, List.nodup_cons, List.mem_cons, not_or]
      exact ⟨⟨n01, n02, n03, n04, n05, k0, n06⟩, ⟨n12, n13, n14, n15, k1', n16⟩, ⟨n23, n24, n25, k2', n26⟩, ⟨n34, n35, k3', n36⟩, ⟨n45, k4', n46⟩, ⟨k5', n56⟩, k6', n60⟩
    · rw [List.nodup_append]
      exact ⟨nf, by simp, fun a ha b hb => by simp at hb; subst hb; exact fun e => hx (e ▸ ha)⟩
    · rw [List.push_toArray]
      simp only [List.mem_cons, List.mem_append] at hp ⊢
      rcases hp with h | h | h | h | h | h | h | h | h <;> simp only [h, true_or, or_true]
    · simp only [List.mem_cons] at hq
      rcases hq with h | h | h | h | h | h | h | h
      · rw [h]; exact hA.at_ p hp (x, instObj 154 dx) (by simp)
      · rw [h]; exact hA.at_ p hp (dx, symD i1 i2 i3 i4 k1 k2 k3 k4 T AD FL FD) (by simp)
      · rw [h]; exact hA.at_ p hp (T, W.listOf tvs.toArray nT) (by simp)
      · rw [h]; exact hA.at_ p hp (AD, oAD) (by simp)
      · rw [h]; exact hA.at_ p hp (FL, W.listOf fvs.toArray nF) (by simp)
      · rw [h]; exact hA.at_ p hp (FD, oFD) (by simp)
      · rw [h]; exact Nat.ne_of_gt (hkey p (List.mem_append_left _ hp))
      · exact hA.at_ p hp q (by simp only [List.mem_cons, h, or_true])
end
end Mine
end

section
open PySem PySem.W PySem.Spec PySem.Calls PyProof.Rows PyProof.V
set_option maxRecDepth 100000
set_option maxHeartbeats 8000000
namespace Mine

section
variable {prog : Program} {w : World} {A : Around} {E : Value → Shared → Prop} {s : Shared} {h₀ : Heap} {L : Addr} {m : Str → Option Value} {tab news pre : List (Addr × Obj)} {x : Addr} {texts : List Str} {fs : List (Int × Int)}
theorem meth_sym {name : Str} {f : Addr} {pl : Sem Bool} {Q : Value × List Value → Shared → Prop} (F : Fr h₀ L s.heap m) (X : (hd.heap_1 w.params).In h₀) (N : News h₀ L s.heap news) (G : TailF tab news pre) (S : SymR w tab x texts fs)
    (hg : plainGet (hd.heap_1 w.params) 154 name = true) (hf : findIn (hd.heap_1 w.params) (.ref 154) name = some (some (.ref f))) (ht : isFn (hd.heap_1 w.params) (.ref f) = true)
    (hl : ∀ (T AD FL FD : Addr) (i1 i2 i3 i4 : Int) (k1 k2 k3 k4 : Tok), getL name [⟨i1, .str "texts" k1, .ref T⟩, ⟨i2, .str "atom_numbers" k2, .ref AD⟩, ⟨i3, .str "functors" k3, .ref FL⟩, ⟨i4, .str "functor_numbers" k4, .ref FD⟩] = some none)
    (h : Q (.ref f, [.ref x]) s) : wpAny (model prog w) A (getMethod (.ref x) name pl) Q E s := by
  obtain ⟨rfl, _⟩ := G.split
  obtain ⟨dx, T, AD, FL, FD, i1, i2, i3, i4, k1, k2, k3, k4, tvs, nT, oAD, kvs, fvs, nF, oFD, tups, rfl, dT, dF, lo, hdc, hf', TT, nd, nt, nf⟩ := S
  exact method_inst F X (InstAt.of_news N (List.mem_append_right _ (.head _)) (List.mem_append_right _ (.tail _ (.head _)))) hg hf ht (hl ..) h
end

local macro_rules | `(tactic| walk_at "subscriptTail") => `(tactic| (k_here; (with_reducible show wpAny _ _ (subscriptTail _ _ (Value.ref _) (Value.int _ _)) _ _ _); k_dflt (refine' item_led ?N ?m ?x ?z ?f ?_ ?s ?g; (case N => k_asm); (case m => k_mem); (case x => assumption); (case z => omega); (case f => assumption); (case s => with_unfolding_all rfl); (case g => (intro _; with_unfolding_all rfl)); k_whole)))

section
variable {w : World} {mean : ExcName → Option Value} {mg mb : Str → Option Value} {dp un : Nat} {gd : Option (List Code)} {cn : Str} {cs : Scope} {a : Addr} {ccd : Value} {cl : List (Str × Addr)} {outer : List Env} {A₀ : Around} {base h₀ : Heap} {L : Addr} {m : Str → Option Value} {s : Shared} {Q E : Value → Shared → Prop}
variable {tab news pre : List (Addr × Obj)} {x : Addr} {texts : List Str} {fs : List (Int × Int)}

theorem name_low {x dx T AD FL FD t : Addr} {i1 i2 i3 i4 : Int} {k1 k2 k3 k4 : Tok} {fvs : List Value} {nF n : Nat} {an ar : Int} {ta tb tk : Tok} {k : Int}
  (B : Below A₀ base outer h₀) (F : Fr h₀ L s.heap m) (X : (hd.heap_1 w.params).In h₀)
  (N : News h₀ L s.heap ((x, instObj 154 dx) :: (dx, symD i1 i2 i3 i4 k1 k2 k3 k4 T AD FL FD) :: (FL, W.listOf fvs.toArray nF) :: (t, { cls := .type "tuple", data := .seq [Value.int an ta, Value.int ar tb].toArray n }) :: news))
  (Tp : Top hd.view_1 (looseW hd.view_1 []) mean mg mb h₀) (hk : cs.kind = .function) (h0 : 0 ≤ k) (hx : fvs[k.toNat]? = some (.ref t)) (hlen : fvs.length ≤ 1000000) (hd' : dp + 2 < recursionLimit) (hu : un + 16 < cLine)
  (hret : ∀ h' tk', Fr h₀ L h' m → News h₀ L h' news → Q (.int an ta) { s with heap := h', toks := tk' }) :
  wpAny (model PySem.Challenge.pw_rh0073_01 w) (ktrTop dp un gd cn cs L a ccd cl outer) (call (.ref 116) [.ref x, .int k tk]) Q E s := by
  refine wpAny_call ?_
  k_dflt cell_enter
  k_steps
  (with_reducible rename News _ _ _ _ => nE)
  (with_reducible rename Fr _ _ _ _ => fE)
  exact hret _ _ fE (fun p hp => nE p (.tail _ (.tail _ (.tail _ (.tail _ hp)))))
theorem arity_low {x dx T AD FL FD t : Addr} {i1 i2 i3 i4 : Int} {k1 k2 k3 k4 : Tok} {fvs : List Value} {nF n : Nat} {an ar : Int} {ta tb tk : Tok} {k : Int}
  (B : Below A₀ base outer h₀) (F : Fr h₀ L s.heap m) (X : (hd.heap_1 w.params).In h₀)
  (N : News h₀ L s.heap ((x, instObj 154 dx) :: (dx, symD i1 i2 i3 i4 k1 k2 k3 k4 T AD FL FD) :: (FL, W.listOf fvs.toArray nF) :: (t, { cls := .type "tuple", data := .seq [Value.int an ta, Value.int ar tb].toArray n }) :: news))
  (Tp : Top hd.view_1 (looseW hd.view_1 []) mean mg mb h₀) (hk : cs.kind = .function) (h0 : 0 ≤ k) (hx : fvs[k.toNat]? = some (.ref t)) (hlen : fvs.length ≤ 1000000) (hd' : dp + 2 < recursionLimit) (hu : un + 16 < cLine)
  (hret : ∀ h' tk', Fr h₀ L h' m → News h₀ L h' news → Q (.int ar tb) { s with heap := h', toks := tk' }) :
  wpAny (model PySem.Challenge.pw_rh0073_01 w) (ktrTop dp un gd cn cs L a ccd cl outer) (call (.ref 123) [.ref x, .int k tk]) Q E s := by
  refine wpAny_call ?_
  k_dflt cell_enter
  k_steps
  (with_reducible rename News _ _ _ _ => nE)
  (with_reducible rename Fr _ _ _ _ => fE)
  exact hret _ _ fE (fun p hp => nE p (.tail _ (.tail _ (.tail _ (.tail _ hp)))))
theorem text_low {x dx T AD FL FD : Addr} {i1 i2 i3 i4 : Int} {k1 k2 k3 k4 : Tok} {fvs : List Value} {nF : Nat} {tx : Str} {ta tk : Tok} {k : Int}
  (B : Below A₀ base outer h₀) (F : Fr h₀ L s.heap m) (X : (hd.heap_1 w.params).In h₀)
  (N : News h₀ L s.heap ((x, instObj 154 dx) :: (dx, symD i1 i2 i3 i4 k1 k2 k3 k4 T AD FL FD) :: (T, W.listOf fvs.toArray nF) :: news))
  (Tp : Top hd.view_1 (looseW hd.view_1 []) mean mg mb h₀) (hk : cs.kind = .function) (h0 : 0 ≤ k) (hx : fvs[k.toNat]? = some (.str tx ta)) (hlen : fvs.length ≤ 1000000) (hd' : dp + 2 < recursionLimit) (hu : un + 16 < cLine)
  (hret : ∀ h' tk', Fr h₀ L h' m → News h₀ L h' news → Q (.str tx ta) { s with heap := h', toks := tk' }) :
  wpAny (model PySem.Challenge.pw_rh0073_01 w) (ktrTop dp un gd cn cs L a ccd cl outer) (call (.ref 95) [.ref x, .int k tk]) Q E s := by
  refine wpAny_call ?_
  k_dflt cell_enter
  k_steps
  (with_reducible rename News _ _ _ _ => nE)
  (with_reducible rename Fr _ _ _ _ => fE)
  exact hret _ _ fE (fun p hp => nE p (.tail _ (.tail _ (.tail _ hp))))

theorem DatAll.at {led : List (Addr × Obj)} {vs : List Value} {ds : List Dat} {k : Nat} {d : Dat} (h : DatAll led vs ds) (hk : ds[k]? = some d) : ∃ v, vs[k]? = some v ∧ DatIn led v d := by
  obtain ⟨hl, e⟩ := List.getElem?_eq_some_iff.mp hk
  obtain ⟨v, hv, hd⟩ := h.get hl
  exact ⟨v, hv, e ▸ hd⟩

theorem fn_at {tups : List (Addr × Obj)} {fvs : List Value} {fs : List (Int × Int)} {k : Nat} {an ar : Int} (dF : DatAll tups fvs (fs.map fun f => Dat.tuple [.int f.1, .int f.2])) (hk : fs[k]? = some (an, ar)) :
    ∃ t ta tb n, fvs[k]? = some (.ref t) ∧ (t, ({ cls := .type "tuple", data := .seq [Value.int an ta, Value.int ar tb].toArray n } : Obj)) ∈ tups := by
  obtain ⟨v, hv, hd⟩ := DatAll.at dF (k := k) (d := Dat.tuple [.int an, .int ar]) (by rw [List.getElem?_map, hk]; rfl)
  cases hd with
  | tuple hm r =>
    cases r with
    | cons h1 r =>
      cases r with
      | cons h2 r =>
        cases r
        cases h1
        cases h2
        exact ⟨_, _, _, _, hv, hm⟩

theorem nameS {tk : Tok} {k : Nat} {an ar : Int}
  (B : Below A₀ base outer h₀) (F : Fr h₀ L s.heap m) (X : (hd.heap_1 w.params).In h₀) (N : News h₀ L s.heap news) (G : TailF tab news pre) (S : SymR w tab x texts fs)
  (Tp : Top hd.view_1 (looseW hd.view_1 []) mean mg mb h₀) (hk : cs.kind = .function) (hlen : fs.length ≤ 100000) (hat : fs[k]? = some (an, ar)) (hd' : dp + 2 < recursionLimit) (hu : un + 16 < cLine)
  (hret : ∀ t h' tk', Fr h₀ L h' m → News h₀ L h' news → Q (.int an t) { s with heap := h', toks := tk' }) :
  wpAny (model PySem.Challenge.pw_rh0073_01 w) (ktrTop dp un gd cn cs L a ccd cl outer) (call (.ref 116) [.ref x, .int (k : Int) tk]) Q E s := by
  obtain ⟨rfl, hA⟩ := G.split
  obtain ⟨dx, T, AD, FL, FD, i1, i2, i3, i4, k1, k2, k3, k4, tvs, nT, oAD, kvs, fvs, nF, oFD, tups, rfl, dT, dF, lo, hdc, hf, TT, nd, nt, nf⟩ := S
  obtain ⟨t, ta, tb, n, hv, hm⟩ := fn_at dF hat
  have hlF : fvs.length = fs.length := by rw [dF.length, List.length_map]
  refine name_low (dx := dx) (T := T) (AD := AD) (FL := FL) (FD := FD) (i1 := i1) (i2 := i2) (i3 := i3) (i4 := i4) (k1 := k1) (k2 := k2) (k3 := k3) (k4 := k4) (nF := nF) (t := t) (ta := ta) (tb := tb) (n := n) (fvs := fvs) (ar := ar) B F X (fun p hp => N p ?_) Tp hk (Int.natCast_nonneg k) (by simpa using hv) (by omega) hd' hu (fun h' tk' F' N' => hret ta h' tk' F' N')
  simp only [List.mem_cons, List.mem_append] at hp ⊢
  rcases hp with h | h | h | h | h | h | h | h | h | h | h | h
  · simp only [h, true_or, or_true]
  · simp only [h, true_or, or_true]
  · simp only [h, true_or, or_true]
  · subst h; simp only [hm, or_true]
  all_goals simp only [h, true_or, or_true]
theorem arityS {tk : Tok} {k : Nat} {an ar : Int}
  (B : Below A₀ base outer h₀) (F : Fr h₀ L s.heap m) (X : (hd.heap_1 w.params).In h₀) (N : News h₀ L s.heap news) (G : TailF tab news pre) (S : SymR w tab x texts fs)
  (Tp : Top hd.view_1 (looseW hd.view_1 []) mean mg mb h₀) (hk : cs.kind = .function) (hlen : fs.length ≤ 100000) (hat : fs[k]? = some (an, ar)) (hd' : dp + 2 < recursionLimit) (hu : un + 16 < cLine)
  (hret : ∀ t h' tk', Fr h₀ L h' m → News h₀ L h' news → Q (.int ar t) { s with heap := h', toks := tk' }) :
  wpAny (model PySem.Challenge.pw_rh0073_01 w) (ktrTop dp un gd cn cs L a ccd cl outer) (call (.ref 123) [.ref x, .int (k : Int) tk]) Q E s := by
  obtain ⟨rfl, hA⟩ := G.split
  obtain ⟨dx, T, AD, FL, FD, i1, i2, i3, i4, k1, k2, k3, k4, tvs, nT, oAD, kvs, fvs, nF, oFD, tups, rfl, dT, dF, lo, hdc, hf, TT, nd, nt, nf⟩ := S
  obtain ⟨t, ta, tb, n, hv, hm⟩ := fn_at dF hat
  have hlF : fvs.length = fs.length := by rw [dF.length, List.length_map]
  refine arity_low (dx := dx) (T := T) (AD := AD) (FL := FL) (FD := FD) (i1 := i1) (i2 := i2) (i3 := i3) (i4 := i4) (k1 := k1) (k2 := k2) (k3 := k3) (k4 := k4) (nF := nF) (t := t) (ta := ta) (tb := tb) (n := n) (fvs := fvs) (an := an) B F X (fun p hp => N p ?_) Tp hk (Int.natCast_nonneg k) (by simpa using hv) (by omega) hd' hu (fun h' tk' F' N' => hret tb h' tk' F' N')
  simp only [List.mem_cons, List.mem_append] at hp ⊢
  rcases hp with h | h | h | h | h | h | h | h | h | h | h | h
  · simp only [h, true_or, or_true]
  · simp only [h, true_or, or_true]
  · simp only [h, true_or, or_true]
  · subst h; simp only [hm, or_true]
  all_goals simp only [h, true_or, or_true]

theorem textS {tk : Tok} {k : Nat} {tx : Str}
  (B : Below A₀ base outer h₀) (F : Fr h₀ L s.heap m) (X : (hd.heap_1 w.params).In h₀) (N : News h₀ L s.heap news) (G : TailF tab news pre) (S : SymR w tab x texts fs)
  (Tp : Top hd.view_1 (looseW hd.view_1 []) mean mg mb h₀) (hk : cs.kind = .function) (hlen : texts.length ≤ 100000) (hat : texts[k]? = some tx) (hd' : dp + 2 < recursionLimit) (hu : un + 16 < cLine)
  (hret : ∀ t h' tk', Fr h₀ L h' m → News h₀ L h' news → Q (.str tx t) { s with heap := h', toks := tk' }) :
  wpAny (model PySem.Challenge.pw_rh0073_01 w) (ktrTop dp un gd cn cs L a ccd cl outer) (call (.ref 95) [.ref x, .int (k : Int) tk]) Q E s := by
  obtain ⟨rfl, hA⟩ := G.split
  obtain ⟨dx, T, AD, FL, FD, i1, i2, i3, i4, k1, k2, k3, k4, tvs, nT, oAD, kvs, fvs, nF, oFD, tups, rfl, dT, dF, lo, hdc, hf, TT, nd, nt, nf⟩ := S
  obtain ⟨v, hv, hdv⟩ := DatAll.at dT (k := k) (d := Dat.str tx) (by rw [List.getElem?_map, hat]; rfl)
  cases hdv with
  | str _ ta =>
    have hlT : tvs.length = texts.length := by rw [dT.length, List.length_map]
    refine text_low (dx := dx) (T := T) (AD := AD) (FL := FL) (FD := FD) (i1 := i1) (i2 := i2) (i3 := i3) (i4 := i4) (k1 := k1) (k2 := k2) (k3 := k3) (k4 := k4) (nF := nT) (tx := tx) (ta := ta) (fvs := tvs) B F X (fun p hp => N p ?_) Tp hk (Int.natCast_nonneg k) (by simpa using hv) (by omega) hd' hu (fun h' tk' F' N' => hret ta h' tk' F' N')
    simp only [List.mem_cons, List.mem_append] at hp ⊢
    rcases hp with h | h | h | h | h | h | h | h | h | h | h <;> simp only [h, true_or, or_true]
end
end Mine
end

section
open PySem PySem.W PySem.Spec PySem.Calls PyProof.Rows PyProof.V
set_option maxRecDepth 100000
set_option maxHeartbeats 8000000
namespace Mine

-- the tail of the ledger: the symbols' table
local macro_rules | `(tactic| ktr_unf) => `(tactic| first | with_reducible assumption | exact fun q hq => Apart.at_ (by assumption) _ (by k_mem) q hq)
local macro_rules | `(tactic| ktr_rel) => `(tactic| first | exact TailF.app (by assumption) | exact TailF.nil | (refine' TailF.cons ?a ?b; (case a => ktr_unf); (case b => ktr_rel)))
local macro_rules | `(tactic| walk_at "getMethod ref") => `(tactic| (k_here; k_dflt (refine' meth_sym ?F ?X ?N ?G ?S ?hg ?hf ?ht ?hl ?_; (case F => k_asm); (case X => k_asm); (case N => k_asm); (case G => ktr_rel); (case S => assumption); (case hg => k_is); (case hf => k_is); (case ht => k_is); (case hl => (intros; k_get)); k_whole)))
local macro_rules | `(tactic| walk_at "call ref") => `(tactic| (k_here; (with_reducible show wpAny _ _ (call (Value.ref 88) _) _ _ _); k_dflt (refine' atomS ?B ?F ?X ?N ?G ?S ?T ?hk ?hlen ?hd ?hu ?_; (case B => k_asm); (case F => k_asm); (case X => k_asm); (case N => k_asm); (case G => ktr_rel); (case S => assumption); (case T => k_asm); (case hk => first | rfl | assumption); (case hlen => omega); (case hd => ktr_room); (case hu => ktr_units); k_whole); intro k9 t9 h9 tk9 tab9 tx9 S9 p9 l9 q9 F9 N9 A9; (try simp only [List.cons_append, List.nil_append] at N9); (try k_sweep); (try dsimp only); (try k_fold)))
local macro_rules | `(tactic| walk_at "call ref") => `(tactic| (k_here; (with_reducible show wpAny _ _ (call (Value.ref 102) _) _ _ _); k_dflt (refine' functorS ?B ?F ?X ?N ?G ?S ?T ?hk ?hlen ?hd ?hu ?_; (case B => k_asm); (case F => k_asm); (case X => k_asm); (case N => k_asm); (case G => ktr_rel); (case S => assumption); (case T => k_asm); (case hk => first | rfl | assumption); (case hlen => omega); (case hd => ktr_room); (case hu => ktr_units); k_whole); intro k9 t9 h9 tk9 tab9 tx9 S9 p9 l9 q9 F9 N9 A9; (try simp only [List.cons_append, List.nil_append] at N9); (try k_sweep); (try dsimp only); (try k_fold)))

section
variable {w : World} {mean : ExcName → Option Value} {mg mb : Str → Option Value} {dp un : Nat} {gd : Option (List Code)} {cn : Str} {cs : Scope} {a : Addr} {ccd : Value} {cl : List (Str × Addr)} {outer : List Env} {A₀ : Around} {base h₀ : Heap} {L : Addr} {m : Str → Option Value} {s : Shared} {Q E : Value → Shared → Prop}
variable {tab news pre : List (Addr × Obj)} {x : Addr} {texts : List Str} {fs : List (Int × Int)}

theorem funcS {tx : Str} {tk tr : Tok} {ar : Int}
  (B : Below A₀ base outer h₀) (F : Fr h₀ L s.heap m) (X : (hd.heap_1 w.params).In h₀) (N : News h₀ L s.heap news) (G : TailF tab news pre) (S : SymR w tab x texts fs)
  (Tp : Top hd.view_1 (looseW hd.view_1 []) mean mg mb h₀) (hk : cs.kind = .function) (hlen : texts.length ≤ 90000) (hlenF : fs.length ≤ 90000) (hd' : dp + 4 < recursionLimit) (hu : un + 32 < cLine)
  (hret : ∀ (k ka : Nat) t h' tk' tab' texts' fs', SymR w tab' x texts' fs' → texts <+: texts' → fs <+: fs' → texts'.length ≤ texts.length + 1 → fs'.length ≤ fs.length + 1 → texts'[ka]? = some tx → fs'[k]? = some ((ka : Int), ar) →
    Fr h₀ L h' m → News h₀ L h' (pre ++ tab') → Apart pre tab' → Q (.int (k : Int) t) { s with heap := h', toks := tk' }) :
  wpAny (model PySem.Challenge.pw_rh0073_01 w) (ktrTop dp un gd cn cs L a ccd cl outer) (call (.ref 109) [.ref x, .str tx tk, .int ar tr]) Q E s := by
  obtain ⟨rfl, hA⟩ := G.split
  clear G
  refine wpAny_call ?_
  k_dflt cell_enter
  k_steps
  exact hret _ _ _ _ _ _ _ _ (by assumption) (by assumption) (by assumption) (by omega) (by omega) (by assumption) (by assumption) (by assumption) (by assumption) (by assumption)
end
end Mine
end

section
open PySem PySem.W PySem.Spec PySem.Calls PyProof.Rows PyProof.V
set_option maxRecDepth 100000
set_option maxHeartbeats 4000000
namespace Mine

section
variable {prog : Program} {w : World} {A : Around} {E : Value → Shared → Prop} {s : Shared} {env : Env} {h₀ : Heap} {x : Str} {body : List Stmt} {Q : Flow → Shared → Prop}

/-- a loop over a tuple of the ledger, by what holds of the ledger between its turns -/
theorem iter_tupInv {ax : Addr} {vs : List Value} {nn : Nat} {m₀ : Str → Option Value} {news : List (Addr × Obj)} (J : Nat → List (Addr × Obj) → Prop)
    (hh : A.handled = none) (hl : (ax, ({ cls := .type "tuple", data := .seq vs.toArray nn } : Obj)) ∈ news) (F : Fr h₀ env.locals s.heap m₀) (N : News h₀ env.locals s.heap news) (hj : J 0 news)
    (turn : ∀ i v news₁ h tk I it, vs[i]? = some v → (ax, ({ cls := .type "tuple", data := .seq vs.toArray nn } : Obj)) ∈ news₁ → J i news₁ → (∀ p ∈ news₁, p.1 ≠ I) → Fr h₀ env.locals h (fun y => if y = x then some v else m₀ y) → News h₀ env.locals h ((I, it) :: news₁) →
      wpAny (model prog w) A (execs body env) (UnrPost h₀ env.locals { s with heap := h, toks := tk } I it (fun m' nx => (∀ y, y ≠ x → m' y = m₀ y) ∧ (ax, ({ cls := .type "tuple", data := .seq vs.toArray nn } : Obj)) ∈ nx ∧ J (i + 1) nx) Q) E { s with heap := h, toks := tk })
    (done : ∀ mx news₁ h tk, J vs.length news₁ → Fr h₀ env.locals h (fun y => if y = x then mx else m₀ y) → News h₀ env.locals h news₁ → Q .next { s with heap := h, toks := tk }) :
    wpAny (model prog w) A (pyIter (.ref ax)) (fun it s₂ => LoopAtV prog w A h₀ env x body Q E it s₂) E s := by
  have hax := (N _ hl).1
  have hls : s.heap.IsTuple ax vs.toArray := ⟨_, hax, rfl, nn, rfl⟩
  have hne : ax ≠ s.heap.objs.size := Nat.ne_of_lt (Heap.lt_size hax)
  refine wpAny_pyIter_tuple hls ?_
  have Wk := Walks.tuple (prog := prog) (w := w) hh s.heap.objs.size ax hne vs.toArray
  have hlen : vs.toArray.size = vs.length := List.size_toArray ..
  rw [hlen] at Wk
  refine ⟨_, _, _, vs.length, _, _, m₀, news, (fun i m nx => (∀ y, y ≠ x → m y = m₀ y) ∧ (ax, ({ cls := .type "tuple", data := .seq vs.toArray nn } : Obj)) ∈ nx ∧ J i nx), rfl, Wk, ?_, ?_, ?_, ⟨⟨_, Heap.get?_push_size _ rfl, rfl, rfl⟩, hls.at fun o e => Heap.get?_push_of_some _ e⟩, F.push _, (fun p hp => ⟨Heap.get?_push_of_some _ (N p hp).1, (N p hp).2⟩), ⟨fun _ _ => rfl, hl, hj⟩, ?_, ?_⟩
  · intro hm
    rcases List.mem_cons.mp hm with e | hm
    · exact absurd F.ns.lt (e ▸ Nat.lt_irrefl _)
    · exact (N _ hl).2.1 ((List.mem_singleton.mp hm).symm)
  · intro b hb
    rw [List.mem_singleton.mp hb]
    exact next_is_new F
  · intro p hp hI
    exact absurd (Heap.lt_size (N p hp).1) ((List.mem_singleton.mp hI) ▸ Nat.lt_irrefl _)
  · rintro i v m₁ news₁ s₁ own ⟨hh', tk', rfl⟩ hin hP ⟨hm, hl₁, hJ⟩ hoff hown hget hall hst' F₁ N₁
    have hv : vs[i]? = some v := by simpa using hP
    obtain ⟨it, hit, -, -⟩ := hst'.1
    have hmemI := hall s.heap.objs.size (List.mem_cons_self ..) (next_is_new F) _ hit
    have hoffI : ∀ p ∈ news₁, p.1 ≠ s.heap.objs.size := fun p hp e => hoff p hp (by rw [e]; exact List.mem_singleton.mpr rfl)
    have F₂ : Fr h₀ env.locals hh' (fun y => if y = x then some v else m₀ y) := by
      have e : (fun y => if y = x then some v else m₁ y) = fun y => if y = x then some v else m₀ y := by
        funext y
        by_cases hy : y = x
        · rw [if_pos hy, if_pos hy]
        · rw [if_neg hy, if_neg hy, hm y hy]
      rw [← e]; exact F₁
    have N₂ : News h₀ env.locals hh' ((s.heap.objs.size, it) :: news₁) := fun p hp => by
      rcases List.mem_cons.mp hp with rfl | hp
      · exact N₁ _ (List.mem_append_left _ hmemI)
      · exact N₁ _ (List.mem_append_right _ hp)
    refine wpAny_mono (turn i v news₁ hh' tk' _ it hv hl₁ hJ hoffI F₂ N₂) (fun f s₂ p => ?_) fun _ _ e => e
    have fin : UnrEnd h₀ env.locals { s with heap := hh', toks := tk' } s.heap.objs.size it (fun m' nx => (∀ y, y ≠ x → m' y = m₀ y) ∧ (ax, ({ cls := .type "tuple", data := .seq vs.toArray nn } : Obj)) ∈ nx ∧ J (i + 1) nx) s₂ →
        LoopStepU h₀ env.locals [s.heap.objs.size] own (fun m nx => (∀ y, y ≠ x → m y = m₀ y) ∧ (ax, ({ cls := .type "tuple", data := .seq vs.toArray nn } : Obj)) ∈ nx ∧ J (i + 1) nx) { s with heap := hh', toks := tk' } .next s₂ := by
      rintro ⟨h', tk, m', news', e, F', N', ho, r⟩
      refine ⟨rfl, h', tk, m', news', e, F', fun p hp => ?_, fun p hp hI => ho p hp (List.mem_singleton.mp hI), r⟩
      rcases List.mem_append.mp hp with hp | hp
      · have h2 : hh'.get? p.1 = some p.2 := hget p hp
        rcases List.mem_cons.mp (hown p hp) with h1 | h1
        · have h3 : p = (s.heap.objs.size, it) := by
            rw [h1, hit] at h2
            exact Prod.ext h1 (Option.some.inj h2).symm
          rw [h3]; exact N' _ (List.mem_cons_self ..)
        · have h1 := List.mem_singleton.mp h1
          have hlo : hh'.get? ax = some ({ cls := .type "tuple", data := .seq vs.toArray nn } : Obj) := (N₂ _ (List.mem_cons_of_mem _ hl₁)).1
          have h3 : p = (ax, ({ cls := .type "tuple", data := .seq vs.toArray nn } : Obj)) := by
            rw [h1, hlo] at h2
            exact Prod.ext h1 (Option.some.inj h2).symm
          rw [h3]; exact N' _ (List.mem_cons_of_mem _ r.2.1)
      · exact N' _ (List.mem_cons_of_mem _ hp)
    cases f with
    | ret v => exact .ret p
    | brk => exact .brk p
    | next => exact .next (fin p)
    | cont => exact .cont (fin p)
  · rintro h' tk m' news' F' N' _ ⟨hm, _, hJ⟩
    refine done (m' x) news' h' tk hJ ?_ N'
    have e : (fun y => if y = x then m' x else m₀ y) = m' := by
      funext y
      by_cases hy : y = x
      · rw [if_pos hy, hy]
      · rw [if_neg hy, hm y hy]
    rw [e]; exact F'
end
end Mine
end

section
open PySem PySem.W PySem.Spec PySem.Calls PyProof.Rows PyProof.V
set_option maxRecDepth 100000
set_option maxHeartbeats 8000000
namespace Mine

/-- rows of a text and an int, made one by one over a ledger -/
inductive RowsL (news : List (Addr × Obj)) : List (Addr × Obj) → List Value → Prop
  | nil : RowsL news news []
  | cons {led : List (Addr × Obj)} {vs : List Value} {t : Addr} {tx : Str} {n : Int} {ta tb : Tok} : RowsL news led vs → (∀ p ∈ led, p.1 < t) → RowsL news ((t, tupO [.str tx ta, .int n tb]) :: led) (vs ++ [.ref t])
def RowOk (led : List (Addr × Obj)) (v : Value) : Prop := ∃ t tx n ta tb, v = .ref t ∧ (t, tupO [.str tx ta, .int n tb]) ∈ led
def OkB (rows : List (Addr × Obj)) (vs : List Value) : Prop := ∀ v ∈ vs, RowOk rows v
def LtB (rows news : List (Addr × Obj)) : Prop := ∀ r ∈ rows, ∀ p ∈ news, p.1 < r.1
theorem RowsL.ok {news led : List (Addr × Obj)} {vs : List Value} (R : RowsL news led vs) : (∃ rows, led = rows ++ news ∧ (∀ r ∈ rows, ∀ p ∈ news, p.1 < r.1) ∧ ∀ v ∈ vs, RowOk rows v) := by
  induction R with
  | nil => exact ⟨[], rfl, by simp, by simp⟩
  | cons R hlt ih =>
    obtain ⟨rows, rfl, h1, h2⟩ := ih
    refine ⟨_ :: rows, rfl, fun r hr p hp => ?_, fun v hv => ?_⟩
    · rcases List.mem_cons.mp hr with e | hr
      · rw [e]; exact hlt p (List.mem_append_right _ hp)
      · exact h1 r hr p hp
    · rcases List.mem_append.mp hv with hv | hv
      · obtain ⟨t', tx', n', a', b', e, hm⟩ := h2 v hv
        exact ⟨t', tx', n', a', b', e, .tail _ hm⟩
      · exact ⟨_, _, _, _, _, List.mem_singleton.mp hv, .head _⟩

section
variable {prog : Program} {w : World} {A : Around} {E : Value → Shared → Prop} {s : Shared} {h₀ : Heap} {L : Addr} {m : Str → Option Value} {news led : List (Addr × Obj)} {vs : List Value}
theorem row_new {tx : Str} {n : Int} {ta tb : Tok} {Q : Value → Shared → Prop} (F : Fr h₀ L s.heap m) (N : News h₀ L s.heap led) (R : RowsL news led vs)
    (h : ∀ t led' h', Fr h₀ L h' m → News h₀ L h' led' → RowsL news led' (vs ++ [.ref t]) → Q (.ref t) { s with heap := h' }) : wpAny (model prog w) A (newTuple [.str tx ta, .int n tb]) Q E s :=
  newTuple_N F N (fun h' F' N' => h _ _ h' F' N' (.cons R fun p hp => Heap.lt_size (N p hp).1)) (by show 2 ≤ sizeLine; rw [sizeLine_eq]; exact Nat.le_of_ble_eq_true rfl)
theorem tup_new {xs : List Value} {Q : Value → Shared → Prop} (F : Fr h₀ L s.heap m) (N : News h₀ L s.heap led) (hx : xs.length ≤ 1000)
    (h : ∀ t h', (∀ p ∈ led, p.1 < t) → Fr h₀ L h' m → News h₀ L h' ((t, tupO xs) :: led) → Q (.ref t) { s with heap := h' }) : wpAny (model prog w) A (newTuple xs) Q E s :=
  newTuple_N F N (fun h' F' N' => h _ h' (fun p hp => Heap.lt_size (N p hp).1) F' N') (by rw [sizeLine_eq]; omega)
theorem ff_end {t : Addr} {xs : List Value} {h' : Heap} {tk' : Nat} {Q : Value → Shared → Prop} (R : RowsL news led vs) (lt : ∀ p ∈ led, p.1 < t) (F : Fr h₀ L h' m) (N : News h₀ L h' ((t, tupO xs) :: led)) (e : vs = xs) (hx : xs.length ≤ 40)
    (hret : ∀ tB rows vs h' tk', (tB, tupO vs) ∈ rows → OkB rows vs → vs.length ≤ 40 → LtB rows news → Fr h₀ L h' m → News h₀ L h' (rows ++ news) → Q (.ref tB) { s with heap := h', toks := tk' }) :
    Q (.ref t) { s with heap := h', toks := tk' } := by
  subst e
  obtain ⟨rows, rfl, h1, h2⟩ := R.ok
  refine hret t ((t, tupO vs) :: rows) vs h' tk' (.head _) (fun v hv => ?_) hx (fun r hr p hp => ?_) F N
  · obtain ⟨t', tx', n', a', b', e, hm⟩ := h2 v hv
    exact ⟨t', tx', n', a', b', e, .tail _ hm⟩
  · rcases List.mem_cons.mp hr with e | hr
    · rw [e]; exact lt p (List.mem_append_right _ hp)
    · exact h1 r hr p hp
end

local macro_rules | `(tactic| walk_at "newTuple") => `(tactic| (k_here; k_dflt (refine' tup_new ?F ?N ?x ?_; (case F => k_asm); (case N => k_asm); (case x => exact Nat.le_of_ble_eq_true rfl); k_whole); intro t' h' l1 F' N'; (try k_sweep)))
local macro_rules | `(tactic| walk_at "newTuple") => `(tactic| (k_here; (with_reducible show wpAny _ _ (newTuple [Value.str _ _, Value.int _ _]) _ _ _); k_dflt (refine' row_new ?F ?N ?R ?_; (case F => k_asm); (case N => k_asm); (case R => first | assumption | exact RowsL.nil); k_whole); intro t' led' h' F' N' R'; (try k_sweep)))

section
variable {w : World} {mean : ExcName → Option Value} {mg mb : Str → Option Value} {dp un : Nat} {gd : Option (List Code)} {cn : Str} {cs : Scope} {a : Addr} {ccd : Value} {cl : List (Str × Addr)} {outer : List Env} {A₀ : Around} {base h₀ : Heap} {L : Addr} {m : Str → Option Value} {s : Shared} {Q E : Value → Shared → Prop}
variable {news : List (Addr × Obj)}

theorem ffS
  (B : Below A₀ base outer h₀) (F : Fr h₀ L s.heap m) (X : (hd.heap_1 w.params).In h₀) (N : News h₀ L s.heap news)
  (Tp : Top hd.view_1 (looseW hd.view_1 []) mean mg mb h₀) (hk : cs.kind = .function) (hd' : dp + 2 < recursionLimit) (hu : un + 16 < cLine)
  (hret : ∀ tB rows vs h' tk', (tB, tupO vs) ∈ rows → OkB rows vs → vs.length ≤ 40 → LtB rows news → Fr h₀ L h' m → News h₀ L h' (rows ++ news) → Q (.ref tB) { s with heap := h', toks := tk' }) :
  wpAny (model PySem.Challenge.pw_rh0073_01 w) (ktrTop dp un gd cn cs L a ccd cl outer) (call (.ref 67) []) Q E s := by
  refine wpAny_call ?_
  k_dflt cell_enter
  k_steps
  (with_reducible rename RowsL _ _ _ => rE)
  (with_reducible rename News _ _ _ _ => nE)
  (with_reducible rename Fr _ _ _ _ => fE)
  refine ff_end rE ?_ fE nE ?_ ?_ hret
  · with_reducible assumption
  · simp only [List.nil_append, List.cons_append, List.append_assoc]
  · exact Nat.le_of_ble_eq_true rfl
end
end Mine
end

section
open PySem PySem.W PySem.Spec PySem.Calls PyProof.Rows PyProof.V
set_option maxRecDepth 100000
set_option maxHeartbeats 8000000
namespace Mine
theorem allLt_ne {d : Addr} {l : List (Addr × Obj)} (h : AllLt d l) : ∀ p ∈ l, p.1 ≠ d := fun p hp => Nat.ne_of_lt (of_allLt h p hp)

local macro_rules | `(tactic| k_all) => `(tactic| first | assumption | exact allLt_ne (by with_reducible assumption))

local macro_rules | `(tactic| ktr_units) => `(tactic| (have hcL9 := cLine_is; (try simp only [units_in1, units_deeper, units_under_make, Around.mark_units, units_caller] at *); (try dsimp only [ktrTop] at *); omega))
local macro_rules | `(tactic| k_room) => `(tactic| ktr_room)
local macro_rules | `(tactic| k_units) => `(tactic| ktr_units)

def isStrV : Value → Bool
  | .str _ _ => true
  | _ => false
theorem isStrV_of {vs : List Value} (h : vs.all isStrV = true) {i : Nat} {v : Value} (hv : vs[i]? = some v) : ∃ x t, v = .str x t := by
  have := List.all_eq_true.mp h v (List.mem_of_getElem? hv)
  cases v <;> first | exact ⟨_, _, rfl⟩ | cases this

theorem tab0 {w : World} {x dx T AD FL FD tA : Addr} {i1 i2 i3 i4 : Int} {k1 k2 k3 k4 : Tok} {oT oAD oFD : Obj} {n1 n2 : Nat} {news : List (Addr × Obj)} {h₀ h : Heap} {L : Addr}
    (N : News h₀ L h ((tA, oT) :: (FD, oFD) :: (FL, W.listOf #[] n2) :: (AD, oAD) :: (T, W.listOf #[] n1) :: (x, instObj 154 dx) :: (dx, symD i1 i2 i3 i4 k1 k2 k3 k4 T AD FL FD) :: news))
    (h1 : Obj.IsDictOf (PySem.strKind PySem.Challenge.pw_rh0073_01 w) oAD []) (h2 : Obj.IsDictOf (PySem.intKind PySem.Challenge.pw_rh0073_01 w) oFD []) (l1 : (AD == sysModules) = false) (l2 : (FD == sysModules) = false)
    (hn : ∀ p ∈ news, p.1 < dx) (o1 : @LT.lt Nat _ dx x) (o2 : @LT.lt Nat _ x T) (o3 : @LT.lt Nat _ T AD) (o4 : @LT.lt Nat _ AD FL) (o5 : @LT.lt Nat _ FL FD) (o6 : @LT.lt Nat _ FD tA) :
    ∃ pre tab, SymR w tab x [] [] ∧ News h₀ L h (pre ++ tab) ∧ Apart pre tab ∧ (tA, oT) ∈ pre ∧ ∀ p ∈ news, p ∈ pre := by
  have lo : ∀ {p : Addr × Obj}, p ∈ news → p.1 < dx := fun h => hn _ h
  have nn : ∀ {a b : Addr}, @LT.lt Nat _ a b → a ≠ b := fun h => Nat.ne_of_lt h
  have big : ∀ q ∈ ((x, instObj 154 dx) :: (dx, symD i1 i2 i3 i4 k1 k2 k3 k4 T AD FL FD) :: (T, W.listOf #[] n1) :: (AD, oAD) :: (FL, W.listOf #[] n2) :: (FD, oFD) :: [] : List (Addr × Obj)), @LE.le Nat _ dx q.1 ∧ @LT.lt Nat _ q.1 tA := by
    intro q hq
    simp only [List.mem_cons, List.not_mem_nil, or_false] at hq
    rcases hq with rfl | rfl | rfl | rfl | rfl | rfl <;> dsimp only <;> omega
  have ap : Apart ((tA, oT) :: news) ((x, instObj 154 dx) :: (dx, symD i1 i2 i3 i4 k1 k2 k3 k4 T AD FL FD) :: (T, W.listOf #[] n1) :: (AD, oAD) :: (FL, W.listOf #[] n2) :: (FD, oFD) :: []) := ⟨fun p hp q hq => by
    have b := big q hq
    rcases List.mem_cons.mp hp with rfl | hp
    · exact Nat.ne_of_lt b.2
    · exact Nat.ne_of_gt (Nat.lt_of_lt_of_le (lo hp) b.1)⟩
  refine ⟨(tA, oT) :: news, (x, instObj 154 dx) :: (dx, symD i1 i2 i3 i4 k1 k2 k3 k4 T AD FL FD) :: (T, W.listOf #[] n1) :: (AD, oAD) :: (FL, W.listOf #[] n2) :: (FD, oFD) :: [], ?_, fun p hp => N p ?_, ap, .head _, fun p hp => .tail _ hp⟩
  · refine ⟨dx, T, AD, FL, FD, i1, i2, i3, i4, k1, k2, k3, k4, [], n1, oAD, [], [], n2, oFD, [], rfl, .nil, .nil, l1, h1, .nil, TupTab.ofEmpty (.head _) l2 h2, ?_, List.nodup_nil, List.nodup_nil⟩
    simp only [List.map_cons, List.map_nil, List.nodup_cons, List.mem_cons, List.not_mem_nil, or_false, not_or, not_false_eq_true, List.nodup_nil, and_true]
    refine ⟨⟨?_, ?_, ?_, ?_, ?_⟩, ⟨?_, ?_, ?_, ?_⟩, ⟨?_, ?_, ?_⟩, ⟨?_, ?_⟩, ?_⟩ <;> (refine neN ?_; omega)
  · simp only [List.mem_cons, List.mem_append, List.not_mem_nil, or_false] at hp ⊢
    rcases hp with (h | h) | h | h | h | h | h | h <;> simp only [h, true_or, or_true]

def JG (w : World) (pre : List (Addr × Obj)) (x : Addr) (nT : Nat) (i : Nat) (nx : List (Addr × Obj)) : Prop :=
  ∃ tab texts fs, nx = pre ++ tab ∧ SymR w tab x texts fs ∧ texts.length ≤ nT + i ∧ fs.length ≤ nT + i ∧ Apart pre tab
theorem Apart.turn {I : Addr} {pre tab : List (Addr × Obj)} (it : Obj) (hoff : ∀ p ∈ pre ++ tab, p.1 ≠ I) (hA : Apart pre tab) : Apart ((I, it) :: pre) tab := ⟨fun p hp q hq => by
  rcases List.mem_cons.mp hp with rfl | hp
  · exact hoff q (List.mem_append_right _ hq)
  · exact hA.at_ p hp q hq⟩
theorem JG.fin {w : World} {pre tab tab' : List (Addr × Obj)} {x I tA : Addr} {it oT : Obj} {nT i tk : Nat} {texts : List Str} {fs : List (Int × Int)} {h₀ h' : Heap} {L : Addr} {s₁ : Shared} {m₀ : Str → Option Value} {y : Str} {v : Option Value}
    (hm : (tA, oT) ∈ pre) (hoff : ∀ p ∈ pre ++ tab, p.1 ≠ I) (F : Fr h₀ L h' (fun z => if z = y then v else m₀ z)) (N : News h₀ L h' ((I, it) :: (pre ++ tab'))) (S : SymR w tab' x texts fs) (h1 : texts.length ≤ nT + (i + 1)) (h2 : fs.length ≤ nT + (i + 1)) (hA : Apart ((I, it) :: pre) tab') :
    UnrEnd h₀ L s₁ I it (fun m' nx => (∀ z, z ≠ y → m' z = m₀ z) ∧ (tA, oT) ∈ nx ∧ JG w pre x nT (i + 1) nx) { s₁ with heap := h', toks := tk } := by
  refine ⟨h', tk, _, pre ++ tab', rfl, F, N, fun p hp => ?_, fun z hz => if_neg hz, List.mem_append_left _ hm, tab', texts, fs, rfl, S, h1, h2, ⟨fun p hp => hA.at_ p (.tail _ hp)⟩⟩
  rcases List.mem_append.mp hp with hp | hp
  · exact hoff p (List.mem_append_left _ hp)
  · exact hA.at_ (I, it) (.head _) p hp

theorem rows_assoc {h₀ h : Heap} {L : Addr} {rows pre tab : List (Addr × Obj)} (N : News h₀ L h (rows ++ (pre ++ tab))) : News h₀ L h ((rows ++ pre) ++ tab) := by rw [List.append_assoc]; exact N
theorem rows_apart {rows pre tab : List (Addr × Obj)} (lt : LtB rows (pre ++ tab)) (hA : Apart pre tab) : Apart (rows ++ pre) tab := ⟨fun p hp q hq => by
  rcases List.mem_append.mp hp with hp | hp
  · exact Nat.ne_of_lt (lt p hp q (List.mem_append_right _ hq))
  · exact hA.at_ p hp q hq⟩
theorem row_mem {rows pre tab : List (Addr × Obj)} {p : Addr × Obj} (h : p ∈ rows) : p ∈ (rows ++ pre) ++ tab := List.mem_append_left _ (List.mem_append_left _ h)

local macro_rules | `(tactic| ktr_unf) => `(tactic| first | with_reducible assumption | exact fun q hq => Apart.at_ (by assumption) _ (by k_mem) q hq)
local macro_rules | `(tactic| ktr_rel) => `(tactic| first | exact TailF.app (by assumption) | exact TailF.nil | (refine' TailF.cons ?a ?b; (case a => ktr_unf); (case b => ktr_rel)))
local macro_rules | `(tactic| walk_at "getMethod ref") => `(tactic| (k_here; k_dflt (refine' meth_sym ?F ?X ?N ?G ?S ?hg ?hf ?ht ?hl ?_; (case F => k_asm); (case X => k_asm); (case N => k_asm); (case G => ktr_rel); (case S => assumption); (case hg => k_is); (case hf => k_is); (case ht => k_is); (case hl => (intros; k_get)); k_whole)))
local macro_rules | `(tactic| walk_at "call ref") => `(tactic| (k_here; (with_reducible show wpAny _ _ (call (Value.ref 88) _) _ _ _); k_dflt (refine' atomS ?B ?F ?X ?N ?G ?S ?T ?hk ?hlen ?hd ?hu ?_; (case B => k_asm); (case F => k_asm); (case X => k_asm); (case N => k_asm); (case G => ktr_rel); (case S => assumption); (case T => k_asm); (case hk => first | rfl | assumption); (case hlen => omega); (case hd => ktr_room); (case hu => ktr_units); k_whole); intro k9 t9 h9 tk9 tab9 tx9 S9 p9 l9 q9 F9 N9 A9; (try simp only [List.cons_append, List.nil_append] at N9); (try k_sweep); (try dsimp only); (try k_fold)))
local macro_rules | `(tactic| walk_at "call ref") => `(tactic| (k_here; (with_reducible show wpAny _ _ (call (Value.ref 109) _) _ _ _); k_dflt (refine' funcS ?B ?F ?X ?N ?G ?S ?T ?hk ?hlen ?hlenF ?hd ?hu ?_; (case B => k_asm); (case F => k_asm); (case X => k_asm); (case N => k_asm); (case G => ktr_rel); (case S => assumption); (case T => k_asm); (case hk => first | rfl | assumption); (case hlen => omega); (case hlenF => omega); (case hd => ktr_room); (case hu => ktr_units); k_whole); intro k9 ka9 t9 h9 tk9 tab9 tx9 fs9 S9 p9 pf9 l9 lf9 q9 qf9 F9 N9 A9; (try simp only [List.cons_append, List.nil_append] at N9); (try k_sweep); (try dsimp only); (try k_fold)))

local macro_rules | `(tactic| walk_at "call ref") => `(tactic| (k_here; (with_reducible show wpAny _ _ (call (Value.ref 67) _) _ _ _); k_dflt (refine' ffS ?B ?F ?X ?N ?T ?hk ?hd ?hu ?_; (case B => k_asm); (case F => k_asm); (case X => k_asm); (case N => k_asm); (case T => k_asm); (case hk => first | rfl | assumption); (case hd => ktr_room); (case hu => ktr_units); k_whole); intro tB rows vsB h9 tk9 mB okB lenB ltB F9 N9; (try k_sweep); (try dsimp only)))

local macro_rules | `(tactic| walk_at "subscriptTail") => `(tactic| (k_here; (with_reducible show wpAny _ _ (subscriptTail _ _ (Value.ref _) (Value.int _ _)) _ _ _); k_dflt (refine' item_tupleT ?t ?a ?b ?c ?d ?_; (case t => exact News.isTup (by k_asm) (List.Mem.tail _ (by assumption))); (case a => decide); (case b => decide); (case c => rfl); (case d => rfl); k_whole)))
section
variable {w : World} {mean : ExcName → Option Value} {mg mb : Str → Option Value} {dp un : Nat} {gd : Option (List Code)} {cn : Str} {cs : Scope} {a : Addr} {ccd : Value} {cl : List (Str × Addr)} {outer : List Env} {A₀ : Around} {base h₀ : Heap} {L : Addr} {m : Str → Option Value} {s : Shared} {Q E : Value → Shared → Prop}
variable {news : List (Addr × Obj)}

theorem symbolsS 
  (B : Below A₀ base outer h₀) (F : Fr h₀ L s.heap m) (X : (hd.heap_1 w.params).In h₀) (N : News h₀ L s.heap news)
  (Tp : Top hd.view_1 (looseW hd.view_1 []) mean mg mb h₀) (hk : cs.kind = .function) (hd' : dp + 10 < recursionLimit) (hu : un + 80 < cLine)
  (hret : ∀ x h' tk' tab texts fs, SymR w tab x texts fs → texts.length ≤ 80 → fs.length ≤ 80 → Apart news tab → Fr h₀ L h' m → News h₀ L h' (news ++ tab) → Q (.ref x) { s with heap := h', toks := tk' }) :
  wpAny (model PySem.Challenge.pw_rh0073_01 w) (ktrTop dp un gd cn cs L a ccd cl outer) (call (.ref 154) []) Q E s := by
  k_dflt (refine' call_cls ?k1 ?k2 ?k3 ?k4 ?k5 ?k6 ?_; (case k1 => k_asm); (case k2 => k_asm); (case k3 => k_asm); (case k4 => k_is); (case k5 => k_is); (case k6 => k_is); k_whole; intro x' d' h' F' N' l1 l2; (try k_lt l1); (try k_lt2 l2))
  k_dflt cell_enter
  k_steps
  (with_reducible rename News _ _ _ _ => nE)
  obtain ⟨pre, tab, S0, N0, hA, hmA, hnp⟩ := tab0 (w := w) nE (by assumption) (by assumption) (by assumption) (by assumption) (by first | with_reducible assumption | exact of_allLt (by with_reducible assumption)) (by omega) (by omega) (by omega) (by omega) (by omega) (by omega)
  refine iter_tupInv (JG w pre _ 0) rfl (List.mem_append_left _ hmA) (by assumption) N0 ⟨tab, [], [], rfl, S0, Nat.zero_le _, Nat.zero_le _, hA⟩ ?turn ?done
  case turn =>
    rintro i v news₁ hq tkq I it hv hm ⟨tab, texts, fs, rfl, S, hlen, hlenF, hA⟩ hoff F N
    have hi : i < 40 := Nat.lt_of_lt_of_le (List.getElem?_eq_some_iff.mp hv).1 (Nat.le_of_ble_eq_true rfl)
    obtain ⟨tx, tkx, rfl⟩ := isStrV_of rfl hv
    have hA2 := Apart.turn it hoff hA
    k_steps
    exact JG.fin hmA hoff (by assumption) (by assumption) (by assumption) (by omega) (by omega) (by assumption)
  case done =>
    rintro mx news₁ hq tkq ⟨tab, texts, fs, rfl, S, hlen, hlenF, hA⟩ F N
    have hlen2 : texts.length ≤ 29 := Nat.le_trans hlen (Nat.le_of_ble_eq_true rfl)
    k_steps
    (with_reducible rename News _ _ _ _ => nE)
    rename ((_, tupO _) ∈ _) => mB
    rename OkB _ _ => okB
    rename LtB _ _ => ltB
    rename (List.length _ ≤ 40) => lenB
    have nE2 := rows_assoc nE
    have hAp := rows_apart ltB hA
    refine iter_tupInv (JG w (_ ++ pre) _ 29) rfl (List.mem_append_left _ (List.mem_append_left _ mB)) (by assumption) nE2 ⟨tab, texts, fs, rfl, S, by omega, by omega, hAp⟩ ?turn2 ?done2
    case turn2 =>
      rintro i v news₁ hq2 tkq2 I it hv hm ⟨tab, texts, fs, rfl, S, hlen, hlenF, hA⟩ hoff F N
      have hi : i < 40 := Nat.lt_of_lt_of_le (List.getElem?_eq_some_iff.mp hv).1 lenB
      obtain ⟨t, tx, n, ta, tb, rfl, hmt⟩ := okB v (List.mem_of_getElem? hv)
      have hmt2 := row_mem (pre := pre) (tab := tab) hmt
      have hA2 := Apart.turn it hoff hA
      k_steps
      exact JG.fin (List.mem_append_left _ mB) hoff (by assumption) (by assumption) (by assumption) (by omega) (by omega) (by assumption)
    case done2 =>
      rintro mx2 news₁ hq2 tkq2 ⟨tab, texts, fs, rfl, S, hlen, hlenF, hA⟩ F N
      have hlen2 : texts.length ≤ 80 := by omega
      have hlenF2 : fs.length ≤ 80 := by omega
      k_steps
      (with_reducible rename News _ _ _ _ => nE)
      (with_reducible rename Fr _ _ _ _ => fE)
      refine hret _ _ _ _ _ _ S hlen2 hlenF2 ⟨fun p hp => hA.at_ p (List.mem_append_right _ (hnp p hp))⟩ fE (fun p hp => nE p ?_)
      rcases List.mem_append.mp hp with hp | hp
      · exact List.mem_append_left _ (List.mem_append_right _ (hnp p hp))
      · exact List.mem_append_right _ hp
end
end Mine
end

section
open PySem PySem.W PySem.Spec PySem.Calls PyProof.Rows PyProof.V
set_option maxRecDepth 100000
set_option maxHeartbeats 8000000
namespace Mine

theorem Apart.addr {pre tab : List (Addr × Obj)} {l : Addr} {o : Obj} (hA : Apart pre tab) (hm : (l, o) ∈ pre) : ∀ q ∈ tab, q.1 ≠ l := hA.at_ _ hm
theorem ne_app {pre tab : List (Addr × Obj)} {l : Addr} (h1 : ∀ p ∈ pre, p.1 ≠ l) (h2 : ∀ q ∈ tab, q.1 ≠ l) : ∀ p ∈ pre ++ tab, p.1 ≠ l := fun p hp => (List.mem_append.mp hp).elim (h1 p) (h2 p)
local macro_rules | `(tactic| k_all) => `(tactic| first | with_reducible assumption | exact allLt_ne (by with_reducible assumption) | exact ne_app (by with_reducible assumption) (Apart.addr (by with_reducible assumption) (by repeat (first | exact List.Mem.head _ | apply List.Mem.tail))))
local macro_rules | `(tactic| ktr_units) => `(tactic| (have hcL9 := cLine_is; (try simp only [units_in1, units_deeper, units_under_make, Around.mark_units, units_caller] at *); (try dsimp only [ktrTop] at *); omega))
local macro_rules | `(tactic| k_room) => `(tactic| ktr_room)
local macro_rules | `(tactic| k_units) => `(tactic| ktr_units)

section
variable {prog : Program} {w : World} {A : Around} {E : Value → Shared → Prop} {s : Shared} {env : Env} {h₀ : Heap} {x : Str} {body : List Stmt} {Q : Flow → Shared → Prop}
/-- what is left of a loop over a tuple of the ledger, value by value -/
def TupRest (prog : Program) (w : World) (A : Around) (E : Value → Shared → Prop) (h₀ : Heap) (env : Env) (x : Str) (body : List Stmt) (Q : Flow → Shared → Prop) (s : Shared) (m₀ : Str → Option Value) (ax : Addr × Obj) : List Value → List (Addr × Obj) → Prop
  | [], nx => ∀ mx h tk, Fr h₀ env.locals h (fun y => if y = x then mx else m₀ y) → News h₀ env.locals h nx → Q .next { s with heap := h, toks := tk }
  | v :: r, nx => ∀ I it h tk, (∀ p ∈ nx, p.1 ≠ I) → Fr h₀ env.locals h (fun y => if y = x then some v else m₀ y) → News h₀ env.locals h ((I, it) :: nx) →
      wpAny (model prog w) A (execs body env) (UnrPost h₀ env.locals { s with heap := h, toks := tk } I it (fun m' n' => (∀ y, y ≠ x → m' y = m₀ y) ∧ ax ∈ n' ∧ TupRest prog w A E h₀ env x body Q s m₀ ax r n') Q) E { s with heap := h, toks := tk }
theorem iter_tupUnr {ax : Addr} {vs : List Value} {nn : Nat} {m₀ : Str → Option Value} {news : List (Addr × Obj)}
    (hh : A.handled = none) (hl : (ax, ({ cls := .type "tuple", data := .seq vs.toArray nn } : Obj)) ∈ news) (F : Fr h₀ env.locals s.heap m₀) (N : News h₀ env.locals s.heap news)
    (hr : TupRest prog w A E h₀ env x body Q s m₀ (ax, ({ cls := .type "tuple", data := .seq vs.toArray nn } : Obj)) vs news) :
    wpAny (model prog w) A (pyIter (.ref ax)) (fun it s₂ => LoopAtV prog w A h₀ env x body Q E it s₂) E s := by
  refine iter_tupInv (fun i nx => TupRest prog w A E h₀ env x body Q s m₀ (ax, ({ cls := .type "tuple", data := .seq vs.toArray nn } : Obj)) (vs.drop i) nx) hh hl F N (by rw [List.drop_zero]; exact hr) ?_ ?_
  · intro i v nx h tk I it hv hm hJ hoff F' N'
    have hlt : i < vs.length := (List.getElem?_eq_some_iff.mp hv).1
    have hdrop : vs.drop i = v :: vs.drop (i + 1) := by
      rw [List.drop_eq_getElem_cons hlt]
      congr 1
      exact (List.getElem?_eq_some_iff.mp hv).2
    rw [hdrop] at hJ
    exact hJ I it h tk hoff F' N'
  · intro mx nx h tk hJ F' N'
    rw [List.drop_length] at hJ
    exact hJ mx h tk F' N'
theorem tup_turn {m₀ : Str → Option Value} {ax : Addr × Obj} {I : Addr} {it : Obj} {v : Option Value} {r : List Value} {s₀ : Shared} {h' : Heap} {tk : Nat} {nx : List (Addr × Obj)} (hm : ax ∈ nx) (hoff : ∀ p ∈ nx, p.1 ≠ I) (F : Fr h₀ env.locals h' (fun z => if z = x then v else m₀ z)) (N : News h₀ env.locals h' ((I, it) :: nx))
    (hr : TupRest prog w A E h₀ env x body Q s m₀ ax r nx) :
    UnrEnd h₀ env.locals s₀ I it (fun m' n' => (∀ y, y ≠ x → m' y = m₀ y) ∧ ax ∈ n' ∧ TupRest prog w A E h₀ env x body Q s m₀ ax r n') { s₀ with heap := h', toks := tk } :=
  ⟨h', tk, _, nx, rfl, F, N, hoff, fun z hz => if_neg hz, hm, hr⟩
end
local macro_rules | `(tactic| walk_at "exec For") => `(tactic| ((with_reducible rename Fr _ _ _ _ => F'); with_unfolding_all (refine For_invVF F' (by rfl) (by rfl) ?_)))
local macro_rules | `(tactic| ktr_unf) => `(tactic| first | with_reducible assumption | exact Apart.addr (by with_reducible assumption) (by repeat (first | exact List.Mem.head _ | apply List.Mem.tail)))
local macro_rules | `(tactic| ktr_rel) => `(tactic| first | exact TailF.app (by assumption) | exact TailF.nil | (refine' TailF.cons ?a ?b; (case a => ktr_unf); (case b => ktr_rel)))
local macro_rules | `(tactic| walk_at "getMethod ref") => `(tactic| (k_here; k_dflt (refine' meth_sym ?F ?X ?N ?G ?S ?hg ?hf ?ht ?hl ?_; (case F => k_asm); (case X => k_asm); (case N => k_asm); (case S => with_reducible assumption); (case G => ktr_rel); (case hg => k_is); (case hf => k_is); (case ht => k_is); (case hl => (intros; k_get)); k_whole)))
local macro_rules | `(tactic| walk_at "call ref") => `(tactic| (k_here; (with_reducible show wpAny _ _ (call (Value.ref 88) _) _ _ _); k_dflt (refine' atomS ?B ?F ?X ?N ?G ?S ?T ?hk ?hlen ?hd ?hu ?_; (case B => k_asm); (case F => k_asm); (case X => k_asm); (case N => k_asm); (case S => with_reducible assumption); (case G => ktr_rel); (case T => k_asm); (case hk => first | rfl | assumption); (case hlen => omega); (case hd => ktr_room); (case hu => ktr_units); k_whole); intro k9 t9 h9 tk9 tab9 tx9 S9 p9 l9 q9 F9 N9 A9; (try simp only [List.cons_append, List.nil_append] at N9); (try k_sweep); (try dsimp only); (try k_fold)))
local macro_rules | `(tactic| walk_at "call ref") => `(tactic| (k_here; (with_reducible show wpAny _ _ (call (Value.ref 109) _) _ _ _); k_dflt (refine' funcS ?B ?F ?X ?N ?G ?S ?T ?hk ?hlen ?hlenF ?hd ?hu ?_; (case B => k_asm); (case F => k_asm); (case X => k_asm); (case N => k_asm); (case S => with_reducible assumption); (case G => ktr_rel); (case T => k_asm); (case hk => first | rfl | assumption); (case hlen => omega); (case hlenF => omega); (case hd => ktr_room); (case hu => ktr_units); k_whole); intro k9 ka9 t9 h9 tk9 tab9 tx9 fs9 S9 p9 pf9 l9 lf9 q9 qf9 F9 N9 A9; (try simp only [List.cons_append, List.nil_append] at N9); (try k_sweep); (try dsimp only); (try k_fold)))

theorem Apart.lt {l : Addr} {o : Obj} {pre tab : List (Addr × Obj)} (hl : ∀ p ∈ pre ++ tab, p.1 < l) (hA : Apart pre tab) : Apart ((l, o) :: pre) tab := ⟨fun p hp q hq => by
  rcases List.mem_cons.mp hp with rfl | hp
  · exact Nat.ne_of_lt (hl q (List.mem_append_right _ hq))
  · exact hA.at_ p hp q hq⟩
theorem Apart.lt1 {l : Addr} {p : Addr × Obj} {pre tab : List (Addr × Obj)} (o : Obj) (h : @LT.lt Nat _ p.1 l ∧ AllLt l (pre ++ tab)) (hA : Apart (p :: pre) tab) : Apart ((l, o) :: p :: pre) tab :=
  Apart.lt (fun q hq => by
    rcases List.mem_cons.mp hq with rfl | hq
    · exact h.1
    · exact of_allLt h.2 q hq) hA
theorem off1 {l I : Addr} {o : Obj} {r : List (Addr × Obj)} (h : ∀ p ∈ (l, o) :: r, p.1 ≠ I) : @Ne Nat l I := h _ (.head _)
theorem swapN {h₀ h : Heap} {L : Addr} {a b : Addr × Obj} {r : List (Addr × Obj)} (N : News h₀ L h (a :: b :: r)) : News h₀ L h (b :: a :: r) := fun p hp => N p (by
  simp only [List.mem_cons] at hp ⊢
  rcases hp with h | h | h <;> simp only [h, true_or, or_true])
theorem turn_off1 {D l I : Addr} {d o o' it : Obj} {P : Addr × Obj} {pre tab tab' : List (Addr × Obj)} (hD : @LT.lt Nat _ I D) (hoff : ∀ p ∈ (l, o) :: P :: (pre ++ tab), p.1 ≠ I) (hA : Apart ((I, it) :: (l, o) :: P :: pre) tab') :
    ∀ p ∈ (D, d) :: (l, o') :: P :: (pre ++ tab'), p.1 ≠ I := fun p hp => by
  simp only [List.mem_cons, List.mem_append] at hp
  rcases hp with rfl | rfl | rfl | h | h
  · exact Nat.ne_of_gt hD
  · exact hoff (l, o) (.head _)
  · exact hoff _ (.tail _ (.head _))
  · exact hoff _ (.tail _ (.tail _ (List.mem_append_left _ h)))
  · exact hA.at_ (I, it) (.head _) p h
theorem Apart.grow1 {D l I : Addr} {o it : Obj} {P : Addr} {op : Obj} {pre tab' : List (Addr × Obj)} (h : @LT.lt Nat _ I D ∧ @LT.lt Nat _ l D ∧ @LT.lt Nat _ P D ∧ AllLt D (pre ++ tab')) (hA : Apart ((I, it) :: (l, o) :: (P, op) :: pre) tab') :
    (∀ q ∈ tab', q.1 ≠ D) ∧ (∀ q ∈ tab', q.1 ≠ l) ∧ (∀ q ∈ tab', q.1 ≠ P) ∧ Apart pre tab' :=
  ⟨fun q hq => Nat.ne_of_lt (of_allLt h.2.2.2 q (List.mem_append_right _ hq)), fun q hq => hA.at_ (l, o) (.tail _ (.head _)) q hq, fun q hq => hA.at_ (P, op) (.tail _ (.tail _ (.head _))) q hq, ⟨fun p hp => hA.at_ p (.tail _ (.tail _ (.tail _ hp)))⟩⟩
theorem pre_at {α : Type} {l l' : List α} (h : l <+: l') {k : Nat} {v : α} (hk : l[k]? = some v) : l'[k]? = some v := by
  obtain ⟨t, rfl⟩ := h
  rw [List.getElem?_append_left (List.getElem?_eq_some_iff.mp hk).1]; exact hk
theorem Apart.two {R T a l P : Addr} {oR oT oa ol oP : Obj} {pre tab : List (Addr × Obj)} (hT : @LT.lt Nat _ a T ∧ @LT.lt Nat _ l T ∧ @LT.lt Nat _ P T ∧ AllLt T (pre ++ tab)) (hR : @LT.lt Nat _ T R ∧ @LT.lt Nat _ a R ∧ @LT.lt Nat _ l R ∧ @LT.lt Nat _ P R ∧ AllLt R (pre ++ tab)) (hA : Apart ((a, oa) :: (l, ol) :: (P, oP) :: pre) tab) :
    Apart ((R, oR) :: (T, oT) :: (a, oa) :: (l, ol) :: (P, oP) :: pre) tab := ⟨fun p hp q hq => by
  rcases List.mem_cons.mp hp with rfl | hp
  · exact Nat.ne_of_lt (of_allLt hR.2.2.2.2 q (List.mem_append_right _ hq))
  rcases List.mem_cons.mp hp with rfl | hp
  · exact Nat.ne_of_lt (of_allLt hT.2.2.2 q (List.mem_append_right _ hq))
  exact hA.at_ p hp q hq⟩
section
variable {w : World} {mean : ExcName → Option Value} {mg mb : Str → Option Value} {dp un : Nat} {gd : Option (List Code)} {cn : Str} {cs : Scope} {a : Addr} {ccd : Value} {cl : List (Str × Addr)} {outer : List Env} {A₀ : Around} {base h₀ : Heap} {L : Addr} {m : Str → Option Value} {s : Shared} {Q E : Value → Shared → Prop}
variable {tab news pre : List (Addr × Obj)} {x : Addr} {texts : List Str} {fs : List (Int × Int)}

theorem fo1 {P : Addr} {nm what : Str} {tn tw : Tok}
  (B : Below A₀ base outer h₀) (F : Fr h₀ L s.heap m) (X : (hd.heap_1 w.params).In h₀) (N : News h₀ L s.heap ((P, tupO [.str what tw]) :: (pre ++ tab))) (hA : Apart ((P, tupO [.str what tw]) :: pre) tab) (S : SymR w tab x texts fs)
  (Tp : Top hd.view_1 (looseW hd.view_1 []) mean mg mb h₀) (hk : cs.kind = .function) (hlen : texts.length ≤ 80000) (hlenF : fs.length ≤ 80000) (hd' : dp + 8 < recursionLimit) (hu : un + 64 < cLine)
  (hret : ∀ r h' tk' ext tab' texts' fs' (k ka kw : Nat), SymR w tab' x texts' fs' → texts <+: texts' → fs <+: fs' → texts'.length ≤ texts.length + 2 → fs'.length ≤ fs.length + 1 → texts'[kw]? = some what → texts'[ka]? = some nm → fs'[k]? = some ((ka : Int), 1) →
    Fr h₀ L h' m → News h₀ L h' (ext ++ ((P, tupO [.str what tw]) :: (pre ++ tab'))) → Apart (ext ++ ((P, tupO [.str what tw]) :: pre)) tab' → DatIn ext (.ref r) (.tuple [.str "s", .int k, .tuple [.tuple [.str "a", .int kw]]]) → Q (.ref r) { s with heap := h', toks := tk' }) :
  wpAny (model PySem.Challenge.pw_rh0073_01 w) (ktrTop dp un gd cn cs L a ccd cl outer) (call (.ref 179) [.ref x, .str nm tn, .ref P]) Q E s := by
  refine wpAny_call ?_
  k_dflt cell_enter
  k_steps
  (with_reducible rename News _ _ _ _ => nE)
  (with_reducible rename Fr _ _ _ _ => fE)
  refine iter_tupUnr rfl (by k_mem) fE nE ?_
  intro I it h1 tk1 hoff F1 N1
  (with_reducible rename (_ ∧ AllLt _ _) => ltE)
  have hA1 := Apart.lt1 (W.listOf #[] 0) ltE hA
  have hpl := fun p hp => Nat.ne_of_lt (of_allLt ltE.2 p (List.mem_append_left tab hp))
  have hA2 := Apart.turn it hoff hA1
  have hIl := off1 hoff
  clear fE nE
  k_steps
  (with_reducible rename News _ _ _ _ => nE)
  (with_reducible rename Fr _ _ _ _ => fE)
  (with_reducible rename SymR _ _ _ _ _ => S2)
  refine tup_turn ?_ (turn_off1 ?_ hoff (by assumption)) fE (swapN nE) ?_
  · exact .tail _ (.tail _ (.head _))
  · omega
  (with_reducible rename (_ ∧ _ ∧ _ ∧ AllLt _ _) => ltD)
  obtain ⟨a1, a2, a3, A10⟩ := Apart.grow1 ltD (by assumption)
  intro mx h2 tk2 F2 N2
  clear fE nE
  k_steps
  (with_reducible rename (_ ∧ _ ∧ _ ∧ AllLt _ _) => ltT)
  (with_reducible rename (_ ∧ _ ∧ _ ∧ _ ∧ AllLt _ _) => ltR)
  (with_reducible rename SymR _ _ _ _ _ => S3)
  (with_reducible rename News _ _ _ _ => nE)
  (with_reducible rename Fr _ _ _ _ => fE)
  refine hret _ _ _ [_, _, _, _] _ _ _ _ _ _ S3 (List.IsPrefix.trans (by assumption) (by assumption)) (by assumption) (by omega) (by omega) (pre_at (by assumption) (by assumption)) (by assumption) (by assumption) fE nE (Apart.two ltT ltR (by assumption)) ?_
  exact .tuple (.head _) (.cons (.str _ _) (.cons (.int _ _) (.cons (.tuple (.tail _ (.head _)) (.cons (.tuple (.tail _ (.tail _ (.head _))) (.cons (.str _ _) (.cons (.int _ _) .nil))) .nil)) .nil)))
end
end Mine
end

section
local macro_rules | `(tactic| walk_at "pad") => `(tactic| fail)
open PySem PySem.W PySem.Spec PySem.Calls PyProof.Rows PyProof.V
set_option maxRecDepth 100000
set_option maxHeartbeats 8000000
namespace Mine

local macro_rules | `(tactic| k_all) => `(tactic| first | with_reducible assumption | exact allLt_ne (by with_reducible assumption) | exact ne_app (by with_reducible assumption) (by first | with_reducible assumption | exact Apart.addr (by with_reducible assumption) (by repeat (first | exact List.Mem.head _ | apply List.Mem.tail))))
local macro_rules | `(tactic| ktr_units) => `(tactic| (have hcL9 := cLine_is; (try simp only [units_in1, units_deeper, units_under_make, Around.mark_units, units_caller] at *); (try dsimp only [ktrTop] at *); omega))
local macro_rules | `(tactic| k_room) => `(tactic| ktr_room)
local macro_rules | `(tactic| k_units) => `(tactic| ktr_units)

local macro_rules | `(tactic| walk_at "exec For") => `(tactic| ((with_reducible rename Fr _ _ _ _ => F'); with_unfolding_all (refine For_invVF F' (by rfl) (by rfl) ?_)))
theorem gA1 {l : Addr} {o : Obj} {pre tab : List (Addr × Obj)} (h : AllLt l (pre ++ tab)) (hA : Apart pre tab) : Apart ((l, o) :: pre) tab := Apart.lt (fun p hp => of_allLt h p hp) hA
theorem gOff1 {D l I : Addr} {d o o' it : Obj} {pre tab tab' : List (Addr × Obj)} (hD : @LT.lt Nat _ I D) (hoff : ∀ p ∈ (l, o) :: (pre ++ tab), p.1 ≠ I) (hA : Apart ((I, it) :: (l, o) :: pre) tab') :
    ∀ p ∈ (D, d) :: (l, o') :: (pre ++ tab'), p.1 ≠ I := fun p hp => by
  simp only [List.mem_cons, List.mem_append] at hp
  rcases hp with rfl | rfl | h | h
  · exact Nat.ne_of_gt hD
  · exact hoff (l, o) (.head _)
  · exact hoff _ (.tail _ (List.mem_append_left _ h))
  · exact hA.at_ (I, it) (.head _) p h
theorem gOff2 {D l I : Addr} {d o o' : Obj} {r : List (Addr × Obj)} (hoff : ∀ p ∈ (D, d) :: (l, o) :: r, p.1 ≠ I) : ∀ p ∈ (D, d) :: (l, o') :: r, p.1 ≠ I := fun p hp => by
  simp only [List.mem_cons] at hp
  rcases hp with rfl | rfl | h
  · exact hoff _ (.head _)
  · exact hoff (l, o) (.tail _ (.head _))
  · exact hoff _ (.tail _ (.tail _ h))
theorem off2 {D l I : Addr} {d o : Obj} {r : List (Addr × Obj)} (h : ∀ p ∈ (D, d) :: (l, o) :: r, p.1 ≠ I) : @Ne Nat l I := h (l, o) (.tail _ (.head _))
theorem gGrow {D l I : Addr} {o it : Obj} {P C : Addr} {op oc : Obj} {pre tab' : List (Addr × Obj)} (h : @LT.lt Nat _ I D ∧ @LT.lt Nat _ l D ∧ @LT.lt Nat _ P D ∧ @LT.lt Nat _ C D ∧ AllLt D (pre ++ tab')) (hA : Apart ((I, it) :: (l, o) :: (P, op) :: (C, oc) :: pre) tab') :
    (∀ q ∈ tab', q.1 ≠ D) ∧ (∀ q ∈ tab', q.1 ≠ l) ∧ (∀ q ∈ tab', q.1 ≠ P) ∧ (∀ q ∈ tab', q.1 ≠ C) ∧ Apart pre tab' :=
  ⟨fun q hq => Nat.ne_of_lt (of_allLt h.2.2.2.2 q (List.mem_append_right _ hq)), fun q hq => hA.at_ (l, o) (.tail _ (.head _)) q hq, fun q hq => hA.at_ (P, op) (.tail _ (.tail _ (.head _))) q hq, fun q hq => hA.at_ (C, oc) (.tail _ (.tail _ (.tail _ (.head _)))) q hq, ⟨fun p hp => hA.at_ p (.tail _ (.tail _ (.tail _ (.tail _ hp))))⟩⟩
theorem gTwo {R T : Addr} {oR oT : Obj} {pre tab : List (Addr × Obj)} (hT : AllLt T (pre ++ tab)) (hR : AllLt R (pre ++ tab)) (hA : Apart pre tab) : Apart ((R, oR) :: (T, oT) :: pre) tab := ⟨fun p hp q hq => by
  rcases List.mem_cons.mp hp with rfl | hp
  · exact Nat.ne_of_lt (of_allLt hR q (List.mem_append_right _ hq))
  rcases List.mem_cons.mp hp with rfl | hp
  · exact Nat.ne_of_lt (of_allLt hT q (List.mem_append_right _ hq))
  exact hA.at_ p hp q hq⟩
local macro_rules | `(tactic| ktr_unf) => `(tactic| first | with_reducible assumption | exact Apart.addr (by with_reducible assumption) (by repeat (first | exact List.Mem.head _ | apply List.Mem.tail)))
local macro_rules | `(tactic| ktr_rel) => `(tactic| first | exact TailF.app (by assumption) | exact TailF.nil | (refine' TailF.cons ?a ?b; (case a => ktr_unf); (case b => ktr_rel)))
local macro_rules | `(tactic| walk_at "getMethod ref") => `(tactic| (k_here; k_dflt (refine' meth_sym ?F ?X ?N ?G ?S ?hg ?hf ?ht ?hl ?_; (case F => k_asm); (case X => k_asm); (case N => k_asm); (case S => with_reducible assumption); (case G => ktr_rel); (case hg => k_is); (case hf => k_is); (case ht => k_is); (case hl => (intros; k_get)); k_whole)))
local macro_rules | `(tactic| walk_at "call ref") => `(tactic| (k_here; (with_reducible show wpAny _ _ (call (Value.ref 88) _) _ _ _); k_dflt (refine' atomS ?B ?F ?X ?N ?G ?S ?T ?hk ?hlen ?hd ?hu ?_; (case B => k_asm); (case F => k_asm); (case X => k_asm); (case N => k_asm); (case S => with_reducible assumption); (case G => ktr_rel); (case T => k_asm); (case hk => first | rfl | assumption); (case hlen => omega); (case hd => ktr_room); (case hu => ktr_units); k_whole); intro k9 t9 h9 tk9 tab9 tx9 S9 p9 l9 q9 F9 N9 A9; (try simp only [List.cons_append, List.nil_append] at N9); (try k_sweep); (try dsimp only); (try k_fold)))
local macro_rules | `(tactic| walk_at "call ref") => `(tactic| (k_here; (with_reducible show wpAny _ _ (call (Value.ref 109) _) _ _ _); k_dflt (refine' funcS ?B ?F ?X ?N ?G ?S ?T ?hk ?hlen ?hlenF ?hd ?hu ?_; (case B => k_asm); (case F => k_asm); (case X => k_asm); (case N => k_asm); (case S => with_reducible assumption); (case G => ktr_rel); (case T => k_asm); (case hk => first | rfl | assumption); (case hlen => omega); (case hlenF => omega); (case hd => ktr_room); (case hu => ktr_units); k_whole); intro k9 ka9 t9 h9 tk9 tab9 tx9 fs9 S9 p9 pf9 l9 lf9 q9 qf9 F9 N9 A9; (try simp only [List.cons_append, List.nil_append] at N9); (try k_sweep); (try dsimp only); (try k_fold)))

section
variable {w : World} {mean : ExcName → Option Value} {mg mb : Str → Option Value} {dp un : Nat} {gd : Option (List Code)} {cn : Str} {cs : Scope} {a : Addr} {ccd : Value} {cl : List (Str × Addr)} {outer : List Env} {A₀ : Around} {base h₀ : Heap} {L : Addr} {m : Str → Option Value} {s : Shared} {Q E : Value → Shared → Prop}
variable {tab news pre : List (Addr × Obj)} {x : Addr} {texts : List Str} {fs : List (Int × Int)}

theorem fo2 {P C : Addr} {nm what : Str} {tn tw ti tq : Tok} {n : Int}
  (B : Below A₀ base outer h₀) (F : Fr h₀ L s.heap m) (X : (hd.heap_1 w.params).In h₀) (N : News h₀ L s.heap ((P, tupO [.str what tw, .ref C]) :: (C, tupO [.str "i" ti, .int n tq]) :: (pre ++ tab))) (hA : Apart ((P, tupO [.str what tw, .ref C]) :: (C, tupO [.str "i" ti, .int n tq]) :: pre) tab) (S : SymR w tab x texts fs)
  (Tp : Top hd.view_1 (looseW hd.view_1 []) mean mg mb h₀) (hk : cs.kind = .function) (hlen : texts.length ≤ 80000) (hlenF : fs.length ≤ 80000) (hd' : dp + 8 < recursionLimit) (hu : un + 64 < cLine)
  (hret : ∀ r h' tk' ext tab' texts' fs' (k ka kw : Nat), SymR w tab' x texts' fs' → texts <+: texts' → fs <+: fs' → texts'.length ≤ texts.length + 2 → fs'.length ≤ fs.length + 1 → texts'[kw]? = some what → texts'[ka]? = some nm → fs'[k]? = some ((ka : Int), 2) →
    Fr h₀ L h' m → News h₀ L h' (ext ++ ((P, tupO [.str what tw, .ref C]) :: (C, tupO [.str "i" ti, .int n tq]) :: (pre ++ tab'))) → Apart (ext ++ ((P, tupO [.str what tw, .ref C]) :: (C, tupO [.str "i" ti, .int n tq]) :: pre)) tab' →
    DatIn (ext ++ [(C, tupO [.str "i" ti, .int n tq])]) (.ref r) (.tuple [.str "s", .int k, .tuple [.tuple [.str "a", .int kw], .tuple [.str "i", .int n]]]) → Q (.ref r) { s with heap := h', toks := tk' }) :
  wpAny (model PySem.Challenge.pw_rh0073_01 w) (ktrTop dp un gd cn cs L a ccd cl outer) (call (.ref 179) [.ref x, .str nm tn, .ref P]) Q E s := by
  refine wpAny_call ?_
  k_dflt cell_enter
  k_steps
  (with_reducible rename News _ _ _ _ => nE)
  (with_reducible rename Fr _ _ _ _ => fE)
  (with_reducible rename (_ ∧ _ ∧ AllLt _ _) => ltE)
  refine iter_tupUnr rfl (by k_mem) fE nE ?_
  intro I it h1 tk1 hoff F1 N1
  have hA1 := gA1 (o := W.listOf #[] 0) (pre := (P, tupO [.str what tw, .ref C]) :: (C, tupO [.str "i" ti, .int n tq]) :: pre) ltE hA
  have hpl := fun p hp => Nat.ne_of_lt (of_allLt ltE.2.2 p (List.mem_append_left tab hp))
  have hA2 := Apart.turn it hoff hA1
  have hIl := off1 hoff
  clear fE nE
  k_steps
  (with_reducible rename News _ _ _ _ => nE)
  (with_reducible rename Fr _ _ _ _ => fE)
  (with_reducible rename SymR _ _ _ _ _ => S2)
  refine tup_turn ?_ (gOff1 (pre := _ :: _ :: pre) ?_ hoff (by assumption)) fE (swapN nE) ?_
  · exact .tail _ (.tail _ (.head _))
  · omega
  (with_reducible rename (_ ∧ _ ∧ _ ∧ _ ∧ AllLt _ _) => ltD)
  obtain ⟨a1, a2, a3, a4, A10⟩ := gGrow ltD (by assumption)
  intro I2 it2 h2 tk2 hoff2 F2 N2
  have hIl2 := off2 hoff2
  clear fE nE
  k_steps
  (with_reducible rename News _ _ _ _ => nE)
  (with_reducible rename Fr _ _ _ _ => fE)
  refine tup_turn ?_ (gOff2 hoff2) fE nE ?_
  · exact .tail _ (.tail _ (.head _))
  intro mx h3 tk3 F3 N3
  clear fE nE
  k_steps
  (with_reducible rename (_ ∧ _ ∧ _ ∧ _ ∧ AllLt _ _) => ltT)
  (with_reducible rename (_ ∧ _ ∧ _ ∧ _ ∧ _ ∧ AllLt _ _) => ltR)
  (with_reducible rename SymR _ _ _ _ _ => S3)
  (with_reducible rename News _ _ _ _ => nE)
  (with_reducible rename Fr _ _ _ _ => fE)
  refine hret _ _ _ [_, _, _, _] _ _ _ _ _ _ S3 (List.IsPrefix.trans (by assumption) (by assumption)) (by assumption) (by omega) (by omega) (pre_at (by assumption) (by assumption)) (by assumption) (by assumption) fE nE (gTwo (pre := _ :: _ :: _ :: _ :: pre) ltT ltR.2 (by assumption)) ?_
  exact .tuple (.head _) (.cons (.str _ _) (.cons (.int _ _) (.cons (.tuple (.tail _ (.head _)) (.cons (.tuple (.tail _ (.tail _ (.head _))) (.cons (.str _ _) (.cons (.int _ _) .nil))) (.cons (.tuple (.tail _ (.tail _ (.tail _ (.tail _ (.head _))))) (.cons (.str _ _) (.cons (.int _ _) .nil))) .nil))) .nil)))
end
end Mine
end

section
local macro_rules | `(tactic| walk_at "pad") => `(tactic| fail)
open PySem PySem.W PySem.Spec PySem.Calls PyProof.Rows PyProof.V
set_option maxRecDepth 100000
set_option maxHeartbeats 8000000
namespace Mine

local macro_rules | `(tactic| k_all) => `(tactic| first | with_reducible assumption | exact allLt_ne (by with_reducible assumption) | exact ne_app (by with_reducible assumption) (by first | with_reducible assumption | exact Apart.addr (by with_reducible assumption) (by repeat (first | exact List.Mem.head _ | apply List.Mem.tail))))
local macro_rules | `(tactic| ktr_units) => `(tactic| (have hcL9 := cLine_is; (try simp only [units_in1, units_deeper, units_under_make, Around.mark_units, units_caller] at *); (try dsimp only [ktrTop] at *); omega))
local macro_rules | `(tactic| k_room) => `(tactic| ktr_room)
local macro_rules | `(tactic| k_units) => `(tactic| ktr_units)

section
variable {w : World} {A : Around} {s : Shared} {h₀ : Heap} {L : Addr} {m : Str → Option Value} {news : List (Addr × Obj)} {v : Value}
theorem pe_call2 {R : Result → Shared → Prop} (F : Fr h₀ L s.heap m) (N : News h₀ L s.heap news) (X₀ : (hd.heap_1 w.params).In h₀)
    (hq : ∀ e t h', Fr h₀ L h' m → News h₀ L h' ((e, excN t) :: (t, tupO [v]) :: news) → (∀ p ∈ news, p.1 < t) → @LT.lt Nat _ t e → (∀ p ∈ (t, tupO [v]) :: news, p.1 ≠ e) →
      codeAny (model PySem.Challenge.pw_rh0073_01 w) (A.under (.builtin "type.__call__" ⟨[.ref 51, v], []⟩)) (.call (.ref 48) ⟨[.ref e, v], []⟩) (InitBack e R) { s with heap := h' }) :
    codeAny (model PySem.Challenge.pw_rh0073_01 w) A (.call (.ref 51) ⟨[v], []⟩) R s :=
  pe_call F N X₀ fun e t h' F' N' l1 l2 => hq e t h' F' N' l1 l2 fun p hp => by
    rcases List.mem_cons.mp hp with rfl | hp
    · exact Nat.ne_of_lt l2
    · exact Nat.ne_of_lt (Nat.lt_trans (l1 p hp) l2)
end
local macro_rules | `(tactic| walk_at "call ref") => `(tactic| (k_here; (with_reducible show wpAny _ _ (call (Value.ref 51) _) _ _ _); k_dflt (refine wpAny_call ?_; refine' pe_call2 ?F ?N ?X ?_; (case F => k_asm); (case N => k_asm); (case X => k_asm); k_whole); intro e8 t8 h8 F8 N8 l8 o8 n8; have hK9 : ScopeKind.function = ScopeKind.function := rfl; k_dflt cell_enter))
local macro_rules | `(tactic| walk_at "setAttr ref") => `(tactic| (k_here; k_dflt (refine' pe_set ?F ?N ?X ?U ?_; (case F => k_asm); (case N => k_asm); (case X => k_asm); (case U => k_updF); k_whole); intro dx8 h8 tk8 tk9 hs8 F8 N8 l8; (try dsimp only at N8); (try k_sweep); (try dsimp only); (try k_fold)))
local macro_rules | `(tactic| ktr_unf) => `(tactic| first | with_reducible assumption | exact Apart.addr (by with_reducible assumption) (by repeat (first | exact List.Mem.head _ | apply List.Mem.tail)))
local macro_rules | `(tactic| ktr_rel) => `(tactic| first | exact TailF.app (by assumption) | exact TailF.nil | (refine' TailF.cons ?a ?b; (case a => ktr_unf); (case b => ktr_rel)))
local macro_rules | `(tactic| walk_at "getMethod ref") => `(tactic| (k_here; k_dflt (refine' meth_sym ?F ?X ?N ?G ?S ?hg ?hf ?ht ?hl ?_; (case F => k_asm); (case X => k_asm); (case N => k_asm); (case S => with_reducible assumption); (case G => ktr_rel); (case hg => k_is); (case hf => k_is); (case ht => k_is); (case hl => (intros; k_get)); k_whole)))
local macro_rules | `(tactic| walk_at "call ref") => `(tactic| (k_here; (with_reducible show wpAny _ _ (call (Value.ref 88) _) _ _ _); k_dflt (refine' atomS ?B ?F ?X ?N ?G ?S ?T ?hk ?hlen ?hd ?hu ?_; (case B => k_asm); (case F => k_asm); (case X => k_asm); (case N => k_asm); (case S => with_reducible assumption); (case G => ktr_rel); (case T => k_asm); (case hk => first | rfl | assumption); (case hlen => omega); (case hd => ktr_room); (case hu => ktr_units); k_whole); intro k9 t9 h9 tk9 tab9 tx9 S9 p9 l9 q9 F9 N9 A9; (try simp only [List.cons_append, List.nil_append] at N9); (try k_sweep); (try dsimp only); (try k_fold)))
local macro_rules | `(tactic| walk_at "call ref") => `(tactic| (k_here; (with_reducible show wpAny _ _ (call (Value.ref 109) _) _ _ _); k_dflt (refine' funcS ?B ?F ?X ?N ?G ?S ?T ?hk ?hlen ?hlenF ?hd ?hu ?_; (case B => k_asm); (case F => k_asm); (case X => k_asm); (case N => k_asm); (case S => with_reducible assumption); (case G => ktr_rel); (case T => k_asm); (case hk => first | rfl | assumption); (case hlen => omega); (case hlenF => omega); (case hd => ktr_room); (case hu => ktr_units); k_whole); intro k9 ka9 t9 h9 tk9 tab9 tx9 fs9 S9 p9 pf9 l9 lf9 q9 qf9 F9 N9 A9; (try simp only [List.cons_append, List.nil_append] at N9); (try k_sweep); (try dsimp only); (try k_fold)))

theorem sys_end {e t b b1 b2 dx : Addr} {od oe ot ob o1 o2 : Obj} {news : List (Addr × Obj)} (l8 : ∀ p ∈ (e, oe) :: (t, ot) :: (b, ob) :: (b1, o1) :: (b2, o2) :: news, p.1 < dx)
    (n8 : ∀ p ∈ (t, ot) :: (b, ob) :: (b1, o1) :: (b2, o2) :: news, p.1 ≠ e) (lt : ∀ p ∈ (b, ob) :: (b1, o1) :: (b2, o2) :: news, p.1 < t) (te : @LT.lt Nat _ t e) (lb : @LT.lt Nat _ b1 b ∧ @LT.lt Nat _ b2 b ∧ AllLt b news) (lb1 : @LT.lt Nat _ b2 b1 ∧ AllLt b1 news) (lb2 : ∀ p ∈ news, p.1 < b2) :
    (∀ p ∈ [(dx, od), (t, ot), (b, ob), (b1, o1), (b2, o2)] ++ news, p.1 ≠ e) ∧ (∀ p ∈ [(dx, od), (t, ot), (b, ob), (b1, o1), (b2, o2)], ∀ q ∈ news, q.1 < p.1) ∧ ∀ q ∈ news, q.1 < e := by
  refine ⟨fun p hp => ?_, fun p hp q hq => ?_, fun q hq => Nat.lt_trans (lt q (by simp [hq])) te⟩
  · rcases List.mem_cons.mp hp with rfl | hp
    · exact Nat.ne_of_gt (l8 (e, oe) (.head _))
    · exact n8 p hp
  · simp only [List.mem_cons, List.not_mem_nil, or_false] at hp
    rcases hp with rfl | rfl | rfl | rfl | rfl
    · exact l8 q (by simp [hq])
    · exact lt q (by simp [hq])
    · exact of_allLt lb.2.2 q hq
    · exact of_allLt lb1.2 q hq
    · exact lb2 q hq
section
variable {w : World} {mean : ExcName → Option Value} {mg mb : Str → Option Value} {dp un : Nat} {gd : Option (List Code)} {cn : Str} {cs : Scope} {a : Addr} {ccd : Value} {cl : List (Str × Addr)} {outer : List Env} {A₀ : Around} {base h₀ : Heap} {L : Addr} {m : Str → Option Value} {s : Shared} {Q E : Value → Shared → Prop}
variable {tab news pre : List (Addr × Obj)} {x : Addr} {texts : List Str} {fs : List (Int × Int)}

theorem sysS {fm : Addr} {fd : Dat} {ex : List (Addr × Obj)}
  (B : Below A₀ base outer h₀) (F : Fr h₀ L s.heap m) (X : (hd.heap_1 w.params).In h₀) (N : News h₀ L s.heap news) (D : DatIn ex (.ref fm) fd)
  (Tp : Top hd.view_1 (looseW hd.view_1 []) mean mg mb h₀) (hk : cs.kind = .function) (hd' : dp + 8 < recursionLimit) (hu : un + 64 < cLine)
  (hret : ∀ e t dx b hs tk0 ext h' tk', Fr h₀ L h' m → News h₀ L h' ((e, excD t dx) :: (ext ++ news)) → (∀ p ∈ ext ++ news, p.1 ≠ e) → (∀ p ∈ ext, ∀ q ∈ news, q.1 < p.1) → (∀ q ∈ news, q.1 < e) → (t, tupO [b]) ∈ ext →
    (dx, W.dictOf [⟨hs, .str "ball" tk0, b⟩] 1) ∈ ext → DatIn (ext ++ ex) b (.tuple [.str "s", .int 16, .tuple [fd, .tuple [.str "a", .int 25]]]) → Q (.ref e) { s with heap := h', toks := tk' }) :
  wpAny (model PySem.Challenge.pw_rh0073_01 w) (ktrTop dp un gd cn cs L a ccd cl outer) (call (.ref 172) [.ref fm]) Q E s := by
  refine wpAny_call ?_
  k_dflt cell_enter
  k_steps
  (with_reducible rename News _ _ _ _ => nE)
  (with_reducible rename Fr _ _ _ _ => fE)
  obtain ⟨q1, q2, q3⟩ := sys_end (od := W.dictOf [⟨_, .str "ball" _, _⟩] 1) (by with_reducible assumption) (by with_reducible assumption) (by with_reducible assumption) (by with_reducible assumption) (by with_reducible assumption) (by with_reducible assumption) (by with_reducible assumption)
  refine hret _ _ _ _ _ _ [_, _, _, _, _] _ _ fE (swapN nE) q1 q2 q3 (.tail _ (.head _)) (.head _) ?_
  refine .tuple (.tail _ (.tail _ (.head _))) (.cons (.str _ _) (.cons (.int _ _) (.cons (.tuple (.tail _ (.tail _ (.tail _ (.head _)))) (.cons (D.mono fun p hp => List.mem_append_right _ hp) (.cons (.tuple (.tail _ (.tail _ (.tail _ (.tail _ (.head _))))) (.cons (.str _ _) (.cons (.int _ _) .nil))) .nil))) .nil)))
end
end Mine
end

section
open PySem PySem.W PySem.Spec PySem.Calls PyProof.Rows PyProof.V
set_option maxRecDepth 100000
set_option maxHeartbeats 8000000
namespace Mine

local macro_rules | `(tactic| k_all) => `(tactic| first | with_reducible assumption | exact allLt_ne (by with_reducible assumption) | exact ne_app (by with_reducible assumption) (by first | with_reducible assumption | exact Apart.addr (by with_reducible assumption) (by repeat (first | exact List.Mem.head _ | apply List.Mem.tail))))
local macro_rules | `(tactic| ktr_units) => `(tactic| (have hcL9 := cLine_is; (try simp only [units_in1, units_deeper, units_under_make, Around.mark_units, units_caller] at *); (try dsimp only [ktrTop] at *); omega))
local macro_rules | `(tactic| k_room) => `(tactic| ktr_room)
local macro_rules | `(tactic| k_units) => `(tactic| ktr_units)

/-- an own exception of the ledger and what its ball says -/
def ResF (texts : List Str) (fs : List (Int × Int)) (f : Dat) : Prop := ∃ k ka kw : Nat, texts[kw]? = some "memory" ∧ texts[ka]? = some "resource_error" ∧ fs[k]? = some ((ka : Int), 1) ∧ f = .tuple [.str "s", .int k, .tuple [.tuple [.str "a", .int kw]]]
def TypF (texts : List Str) (fs : List (Int × Int)) (n : Int) (f : Dat) : Prop := ∃ k ka kw : Nat, texts[kw]? = some "float" ∧ texts[ka]? = some "type_error" ∧ fs[k]? = some ((ka : Int), 2) ∧ f = .tuple [.str "s", .int k, .tuple [.tuple [.str "a", .int kw], .tuple [.str "i", .int n]]]
theorem at_inj {α : Type} {l : List α} (h : l.Nodup) {i j : Nat} {a : α} (hi : l[i]? = some a) (hj : l[j]? = some a) : i = j := by
  obtain ⟨hi', ei⟩ := List.getElem?_eq_some_iff.mp hi
  obtain ⟨hj', ej⟩ := List.getElem?_eq_some_iff.mp hj
  exact (List.getElem_inj h).mp (ei.trans ej.symm)
theorem ResF.mono {texts texts' : List Str} {fs fs' : List (Int × Int)} {f : Dat} (h : ResF texts fs f) (h1 : texts <+: texts') (h2 : fs <+: fs') : ResF texts' fs' f := by
  obtain ⟨k, ka, kw, a, b, c, d⟩ := h
  exact ⟨k, ka, kw, pre_at h1 a, pre_at h1 b, pre_at h2 c, d⟩
theorem TypF.mono {texts texts' : List Str} {fs fs' : List (Int × Int)} {n : Int} {f : Dat} (h : TypF texts fs n f) (h1 : texts <+: texts') (h2 : fs <+: fs') : TypF texts' fs' n f := by
  obtain ⟨k, ka, kw, a, b, c, d⟩ := h
  exact ⟨k, ka, kw, pre_at h1 a, pre_at h1 b, pre_at h2 c, d⟩
theorem ResF.uniq {texts : List Str} {fs : List (Int × Int)} {f f' : Dat} (nt : texts.Nodup) (nf : fs.Nodup) (h : ResF texts fs f) (h' : ResF texts fs f') : f = f' := by
  obtain ⟨k, ka, kw, a, b, c, rfl⟩ := h
  obtain ⟨k', ka', kw', a', b', c', rfl⟩ := h'
  obtain rfl := at_inj nt a a'
  obtain rfl := at_inj nt b b'
  obtain rfl := at_inj nf c c'
  rfl
theorem TypF.uniq {texts : List Str} {fs : List (Int × Int)} {n : Int} {f f' : Dat} (nt : texts.Nodup) (nf : fs.Nodup) (h : TypF texts fs n f) (h' : TypF texts fs n f') : f = f' := by
  obtain ⟨k, ka, kw, a, b, c, rfl⟩ := h
  obtain ⟨k', ka', kw', a', b', c', rfl⟩ := h'
  obtain rfl := at_inj nt a a'
  obtain rfl := at_inj nt b b'
  obtain rfl := at_inj nf c c'
  rfl
structure Ball (w : World) (ext : List (Addr × Obj)) (e t dx : Addr) (d : Dat) : Prop where
  ex : ∃ b hs tk, (t, tupO [b]) ∈ ext ∧ (dx, W.dictOf [⟨hs, .str "ball" tk, b⟩] 1) ∈ ext ∧ DatIn ext b d
abbrev ballD (f : Dat) : Dat := .tuple [.str "s", .int 16, .tuple [f, .tuple [.str "a", .int 25]]]
local macro_rules | `(tactic| ktr_unf) => `(tactic| first | with_reducible assumption | exact Apart.addr (by with_reducible assumption) (by repeat (first | exact List.Mem.head _ | apply List.Mem.tail)))
local macro_rules | `(tactic| ktr_rel) => `(tactic| first | exact TailF.app (by assumption) | exact TailF.nil | (refine' TailF.cons ?a ?b; (case a => ktr_unf); (case b => ktr_rel)))
local macro_rules | `(tactic| walk_at "getMethod ref") => `(tactic| (k_here; k_dflt (refine' meth_sym ?F ?X ?N ?G ?S ?hg ?hf ?ht ?hl ?_; (case F => k_asm); (case X => k_asm); (case N => k_asm); (case S => with_reducible assumption); (case G => ktr_rel); (case hg => k_is); (case hf => k_is); (case ht => k_is); (case hl => (intros; k_get)); k_whole)))
local macro_rules | `(tactic| walk_at "call ref") => `(tactic| (k_here; (with_reducible show wpAny _ _ (call (Value.ref 88) _) _ _ _); k_dflt (refine' atomS ?B ?F ?X ?N ?G ?S ?T ?hk ?hlen ?hd ?hu ?_; (case B => k_asm); (case F => k_asm); (case X => k_asm); (case N => k_asm); (case S => with_reducible assumption); (case G => ktr_rel); (case T => k_asm); (case hk => first | rfl | assumption); (case hlen => omega); (case hd => ktr_room); (case hu => ktr_units); k_whole); intro k9 t9 h9 tk9 tab9 tx9 S9 p9 l9 q9 F9 N9 A9; (try simp only [List.cons_append, List.nil_append] at N9); (try k_sweep); (try dsimp only); (try k_fold)))
local macro_rules | `(tactic| walk_at "call ref") => `(tactic| (k_here; (with_reducible show wpAny _ _ (call (Value.ref 109) _) _ _ _); k_dflt (refine' funcS ?B ?F ?X ?N ?G ?S ?T ?hk ?hlen ?hlenF ?hd ?hu ?_; (case B => k_asm); (case F => k_asm); (case X => k_asm); (case N => k_asm); (case S => with_reducible assumption); (case G => ktr_rel); (case T => k_asm); (case hk => first | rfl | assumption); (case hlen => omega); (case hlenF => omega); (case hd => ktr_room); (case hu => ktr_units); k_whole); intro k9 ka9 t9 h9 tk9 tab9 tx9 fs9 S9 p9 pf9 l9 lf9 q9 qf9 F9 N9 A9; (try simp only [List.cons_append, List.nil_append] at N9); (try k_sweep); (try dsimp only); (try k_fold)))


local macro_rules | `(tactic| walk_at "call ref") => `(tactic| (k_here; (with_reducible show wpAny _ _ (call (Value.ref 179) _) _ _ _); k_dflt (refine' fo1 ?B ?F ?X ?N ?hA ?S ?T ?hk ?hlen ?hlenF ?hd ?hu ?_; (case B => k_asm); (case F => k_asm); (case X => k_asm); (case S => with_reducible assumption); (case N => k_asm); (case hA => first | exact Apart.lt (fun p hp => of_allLt (by with_reducible assumption) p hp) (by with_reducible assumption) | exact Apart.lt (by with_reducible assumption) (by with_reducible assumption)); (case T => k_asm); (case hk => first | rfl | assumption); (case hlen => omega); (case hlenF => omega); (case hd => ktr_room); (case hu => ktr_units); k_whole); intro r9 h9 tk9 ext9 tab9 tx9 fs9 k9 ka9 kw9 S9 p9 pf9 l9 lf9 qw9 qa9 qf9 F9 N9 A9 d9; (try k_sweep); (try dsimp only); (try k_fold)))
local macro_rules | `(tactic| walk_at "call ref") => `(tactic| (k_here; (with_reducible show wpAny _ _ (call (Value.ref 172) _) _ _ _); k_dflt (refine' sysS ?B ?F ?X ?N ?D ?T ?hk ?hd ?hu ?_; (case B => k_asm); (case F => k_asm); (case X => k_asm); (case N => k_asm); (case D => with_reducible assumption); (case T => k_asm); (case hk => first | rfl | assumption); (case hd => ktr_room); (case hu => ktr_units); k_whole); intro e7 t7 dx7 b7 hs7 tk7 ext7 h7 tk7' F7 N7 q71 q72 q73 m71 m72 d7; (try k_sweep); (try dsimp only); (try k_fold)))
theorem err_end {e : Addr} {oe : Obj} {ex7 ex9 ps pre tab : List (Addr × Obj)} (q71 : ∀ p ∈ ex7 ++ (ex9 ++ (ps ++ (pre ++ tab))), p.1 ≠ e) (q72 : ∀ p ∈ ex7, ∀ q ∈ ex9 ++ (ps ++ (pre ++ tab)), q.1 < p.1) (q73 : ∀ q ∈ ex9 ++ (ps ++ (pre ++ tab)), q.1 < e) (hA : Apart (ex9 ++ (ps ++ pre)) tab) :
    (∀ p ∈ (ex7 ++ (ex9 ++ ps)) ++ (pre ++ tab), p.1 ≠ e) ∧ Apart ((e, oe) :: ((ex7 ++ (ex9 ++ ps)) ++ pre)) tab := by
  have ht : ∀ q ∈ tab, q ∈ ex9 ++ (ps ++ (pre ++ tab)) := fun q hq => List.mem_append_right _ (List.mem_append_right _ (List.mem_append_right _ hq))
  refine ⟨fun p hp => q71 p (by simpa only [List.append_assoc] using hp), ⟨fun p hp q hq => ?_⟩⟩
  rcases List.mem_cons.mp hp with rfl | hp
  · exact Nat.ne_of_lt (q73 q (ht q hq))
  simp only [List.append_assoc] at hp
  rcases List.mem_append.mp hp with hp | hp
  · exact Nat.ne_of_lt (q72 p hp q (ht q hq))
  · exact hA.at_ p hp q hq
theorem err_news {h₀ h : Heap} {L : Addr} {q : Addr × Obj} {ex7 ex9 ps pre tab : List (Addr × Obj)} (N : News h₀ L h (q :: (ex7 ++ (ex9 ++ (ps ++ (pre ++ tab)))))) : News h₀ L h (q :: ((ex7 ++ (ex9 ++ ps)) ++ (pre ++ tab))) := by
  simp only [List.append_assoc]; exact N
theorem err_end1 {e : Addr} {oe : Obj} {p₁ : Addr × Obj} {ex7 ex9 pre tab : List (Addr × Obj)} (q71 : ∀ p ∈ ex7 ++ (ex9 ++ p₁ :: (pre ++ tab)), p.1 ≠ e) (q72 : ∀ p ∈ ex7, ∀ q ∈ ex9 ++ p₁ :: (pre ++ tab), q.1 < p.1) (q73 : ∀ q ∈ ex9 ++ p₁ :: (pre ++ tab), q.1 < e) (hA : Apart (ex9 ++ p₁ :: pre) tab) :
    (∀ p ∈ (ex7 ++ (ex9 ++ [p₁])) ++ (pre ++ tab), p.1 ≠ e) ∧ Apart ((e, oe) :: ((ex7 ++ (ex9 ++ [p₁])) ++ pre)) tab := err_end (ps := [p₁]) q71 q72 q73 hA
theorem err_end2 {e : Addr} {oe : Obj} {p₁ p₂ : Addr × Obj} {ex7 ex9 pre tab : List (Addr × Obj)} (q71 : ∀ p ∈ ex7 ++ (ex9 ++ p₁ :: p₂ :: (pre ++ tab)), p.1 ≠ e) (q72 : ∀ p ∈ ex7, ∀ q ∈ ex9 ++ p₁ :: p₂ :: (pre ++ tab), q.1 < p.1) (q73 : ∀ q ∈ ex9 ++ p₁ :: p₂ :: (pre ++ tab), q.1 < e) (hA : Apart (ex9 ++ p₁ :: p₂ :: pre) tab) :
    (∀ p ∈ (ex7 ++ (ex9 ++ [p₁, p₂])) ++ (pre ++ tab), p.1 ≠ e) ∧ Apart ((e, oe) :: ((ex7 ++ (ex9 ++ [p₁, p₂])) ++ pre)) tab := err_end (ps := [p₁, p₂]) q71 q72 q73 hA
section
variable {w : World} {mean : ExcName → Option Value} {mg mb : Str → Option Value} {dp un : Nat} {gd : Option (List Code)} {cn : Str} {cs : Scope} {a : Addr} {ccd : Value} {cl : List (Str × Addr)} {outer : List Env} {A₀ : Around} {base h₀ : Heap} {L : Addr} {m : Str → Option Value} {s : Shared} {Q E : Value → Shared → Prop}
variable {tab news pre : List (Addr × Obj)} {x : Addr} {texts : List Str} {fs : List (Int × Int)}

theorem resS {tw : Tok}
  (B : Below A₀ base outer h₀) (F : Fr h₀ L s.heap m) (X : (hd.heap_1 w.params).In h₀) (N : News h₀ L s.heap (pre ++ tab)) (hA : Apart pre tab) (S : SymR w tab x texts fs)
  (Tp : Top hd.view_1 (looseW hd.view_1 []) mean mg mb h₀) (hk : cs.kind = .function) (hlen : texts.length ≤ 70000) (hlenF : fs.length ≤ 70000) (hd' : dp + 10 < recursionLimit) (hu : un + 100 < cLine)
  (hret : ∀ e t dx f ext h' tk' tab' texts' fs', SymR w tab' x texts' fs' → texts <+: texts' → fs <+: fs' → texts'.length ≤ texts.length + 2 → fs'.length ≤ fs.length + 1 → ResF texts' fs' f → Fr h₀ L h' m → News h₀ L h' ((e, excD t dx) :: (ext ++ (pre ++ tab'))) → (∀ p ∈ ext ++ (pre ++ tab'), p.1 ≠ e) →
    Apart ((e, excD t dx) :: (ext ++ pre)) tab' → Ball w ext e t dx (ballD f) → Q (.ref e) { s with heap := h', toks := tk' }) :
  wpAny (model PySem.Challenge.pw_rh0073_01 w) (ktrTop dp un gd cn cs L a ccd cl outer) (call (.ref 200) [.ref x, .str "memory" tw]) Q E s := by
  refine wpAny_call ?_
  k_dflt cell_enter
  k_steps
  (with_reducible rename News _ _ _ _ => nE)
  (with_reducible rename Fr _ _ _ _ => fE)
  (with_reducible rename SymR _ _ _ _ _ => S3)
  obtain ⟨q1, q2⟩ := err_end1 (oe := excD _ _) (by with_reducible assumption) (by with_reducible assumption) (by with_reducible assumption) (by with_reducible assumption)
  refine hret _ _ _ _ _ _ _ _ _ _ S3 (by assumption) (by assumption) (by assumption) (by assumption) ⟨_, _, _, by assumption, by assumption, by assumption, rfl⟩ fE (err_news (ps := [_]) nE) q1 q2 ⟨_, _, _, List.mem_append_left _ (by assumption), List.mem_append_left _ (by assumption), ?_⟩
  refine DatIn.mono ?_ (by assumption)
  intro p hp
  simp only [List.mem_append] at hp ⊢
  rcases hp with h | h <;> simp only [h, true_or, or_true]
end
end Mine
end

section
local macro_rules | `(tactic| walk_at "pad") => `(tactic| fail)
open PySem PySem.W PySem.Spec PySem.Calls PyProof.Rows PyProof.V
set_option maxRecDepth 100000
set_option maxHeartbeats 8000000
namespace Mine

local macro_rules | `(tactic| k_all) => `(tactic| first | with_reducible assumption | exact allLt_ne (by with_reducible assumption) | exact ne_app (by with_reducible assumption) (by first | with_reducible assumption | exact Apart.addr (by with_reducible assumption) (by repeat (first | exact List.Mem.head _ | apply List.Mem.tail))))
local macro_rules | `(tactic| ktr_units) => `(tactic| (have hcL9 := cLine_is; (try simp only [units_in1, units_deeper, units_under_make, Around.mark_units, units_caller] at *); (try dsimp only [ktrTop] at *); omega))
local macro_rules | `(tactic| k_room) => `(tactic| ktr_room)
local macro_rules | `(tactic| k_units) => `(tactic| ktr_units)

theorem Apart.lt1b {l : Addr} {o : Obj} {p : Addr × Obj} {pre tab : List (Addr × Obj)} (h : @LT.lt Nat _ p.1 l ∧ AllLt l (pre ++ tab)) (hA : Apart (p :: pre) tab) : Apart ((l, o) :: p :: pre) tab := Apart.lt1 o h hA
local macro_rules | `(tactic| ktr_unf) => `(tactic| first | with_reducible assumption | exact Apart.addr (by with_reducible assumption) (by repeat (first | exact List.Mem.head _ | apply List.Mem.tail)))
local macro_rules | `(tactic| ktr_rel) => `(tactic| first | exact TailF.app (by assumption) | exact TailF.nil | (refine' TailF.cons ?a ?b; (case a => ktr_unf); (case b => ktr_rel)))
local macro_rules | `(tactic| walk_at "getMethod ref") => `(tactic| (k_here; k_dflt (refine' meth_sym ?F ?X ?N ?G ?S ?hg ?hf ?ht ?hl ?_; (case F => k_asm); (case X => k_asm); (case N => k_asm); (case S => with_reducible assumption); (case G => ktr_rel); (case hg => k_is); (case hf => k_is); (case ht => k_is); (case hl => (intros; k_get)); k_whole)))
local macro_rules | `(tactic| walk_at "call ref") => `(tactic| (k_here; (with_reducible show wpAny _ _ (call (Value.ref 88) _) _ _ _); k_dflt (refine' atomS ?B ?F ?X ?N ?G ?S ?T ?hk ?hlen ?hd ?hu ?_; (case B => k_asm); (case F => k_asm); (case X => k_asm); (case N => k_asm); (case S => with_reducible assumption); (case G => ktr_rel); (case T => k_asm); (case hk => first | rfl | assumption); (case hlen => omega); (case hd => ktr_room); (case hu => ktr_units); k_whole); intro k9 t9 h9 tk9 tab9 tx9 S9 p9 l9 q9 F9 N9 A9; (try simp only [List.cons_append, List.nil_append] at N9); (try k_sweep); (try dsimp only); (try k_fold)))
local macro_rules | `(tactic| walk_at "call ref") => `(tactic| (k_here; (with_reducible show wpAny _ _ (call (Value.ref 109) _) _ _ _); k_dflt (refine' funcS ?B ?F ?X ?N ?G ?S ?T ?hk ?hlen ?hlenF ?hd ?hu ?_; (case B => k_asm); (case F => k_asm); (case X => k_asm); (case N => k_asm); (case S => with_reducible assumption); (case G => ktr_rel); (case T => k_asm); (case hk => first | rfl | assumption); (case hlen => omega); (case hlenF => omega); (case hd => ktr_room); (case hu => ktr_units); k_whole); intro k9 ka9 t9 h9 tk9 tab9 tx9 fs9 S9 p9 pf9 l9 lf9 q9 qf9 F9 N9 A9; (try simp only [List.cons_append, List.nil_append] at N9); (try k_sweep); (try dsimp only); (try k_fold)))

local macro_rules | `(tactic| walk_at "call ref") => `(tactic| (k_here; (with_reducible show wpAny _ _ (call (Value.ref 179) _) _ _ _); k_dflt (refine' fo2 ?B ?F ?X ?N ?hA ?S ?T ?hk ?hlen ?hlenF ?hd ?hu ?_; (case B => k_asm); (case F => k_asm); (case X => k_asm); (case S => with_reducible assumption); (case N => k_asm); (case hA => first | exact Apart.lt1b (by with_reducible assumption) (by with_reducible assumption) | exact Apart.lt (fun p hp => of_allLt (by with_reducible assumption) p hp) (by with_reducible assumption) | exact Apart.lt (by with_reducible assumption) (by with_reducible assumption)); (case T => k_asm); (case hk => first | rfl | assumption); (case hlen => omega); (case hlenF => omega); (case hd => ktr_room); (case hu => ktr_units); k_whole); intro r9 h9 tk9 ext9 tab9 tx9 fs9 k9 ka9 kw9 S9 p9 pf9 l9 lf9 qw9 qa9 qf9 F9 N9 A9 d9; (try k_sweep); (try dsimp only); (try k_fold)))
local macro_rules | `(tactic| walk_at "call ref") => `(tactic| (k_here; (with_reducible show wpAny _ _ (call (Value.ref 172) _) _ _ _); k_dflt (refine' sysS ?B ?F ?X ?N ?D ?T ?hk ?hd ?hu ?_; (case B => k_asm); (case F => k_asm); (case X => k_asm); (case N => k_asm); (case D => with_reducible assumption); (case T => k_asm); (case hk => first | rfl | assumption); (case hd => ktr_room); (case hu => ktr_units); k_whole); intro e7 t7 dx7 b7 hs7 tk7 ext7 h7 tk7' F7 N7 q71 q72 q73 m71 m72 d7; (try k_sweep); (try dsimp only); (try k_fold)))
section
variable {w : World} {mean : ExcName → Option Value} {mg mb : Str → Option Value} {dp un : Nat} {gd : Option (List Code)} {cn : Str} {cs : Scope} {a : Addr} {ccd : Value} {cl : List (Str × Addr)} {outer : List Env} {A₀ : Around} {base h₀ : Heap} {L : Addr} {m : Str → Option Value} {s : Shared} {Q E : Value → Shared → Prop}
variable {tab news pre : List (Addr × Obj)} {x : Addr} {texts : List Str} {fs : List (Int × Int)}
theorem typS {C : Addr} {n : Int} {tw ti tq : Tok}
  (B : Below A₀ base outer h₀) (F : Fr h₀ L s.heap m) (X : (hd.heap_1 w.params).In h₀) (N : News h₀ L s.heap ((C, tupO [.str "i" ti, .int n tq]) :: (pre ++ tab))) (hC : ∀ p ∈ pre ++ tab, p.1 < C) (hA : Apart pre tab) (S : SymR w tab x texts fs)
  (Tp : Top hd.view_1 (looseW hd.view_1 []) mean mg mb h₀) (hk : cs.kind = .function) (hlen : texts.length ≤ 70000) (hlenF : fs.length ≤ 70000) (hd' : dp + 10 < recursionLimit) (hu : un + 100 < cLine)
  (hret : ∀ e t dx f ext h' tk' tab' texts' fs', SymR w tab' x texts' fs' → texts <+: texts' → fs <+: fs' → texts'.length ≤ texts.length + 2 → fs'.length ≤ fs.length + 1 → TypF texts' fs' n f → Fr h₀ L h' m → News h₀ L h' ((e, excD t dx) :: (ext ++ (pre ++ tab'))) → (∀ p ∈ ext ++ (pre ++ tab'), p.1 ≠ e) →
    Apart ((e, excD t dx) :: (ext ++ pre)) tab' → Ball w ext e t dx (ballD f) → Q (.ref e) { s with heap := h', toks := tk' }) :
  wpAny (model PySem.Challenge.pw_rh0073_01 w) (ktrTop dp un gd cn cs L a ccd cl outer) (call (.ref 186) [.ref x, .str "float" tw, .ref C]) Q E s := by
  have hA0 := Apart.lt (o := tupO [.str "i" ti, .int n tq]) hC hA
  refine wpAny_call ?_
  k_dflt cell_enter
  k_steps
  (with_reducible rename News _ _ _ _ => nE)
  (with_reducible rename Fr _ _ _ _ => fE)
  (with_reducible rename SymR _ _ _ _ _ => S3)
  obtain ⟨q1, q2⟩ := err_end2 (oe := excD _ _) (by with_reducible assumption) (by with_reducible assumption) (by with_reducible assumption) (by with_reducible assumption)
  refine hret _ _ _ _ _ _ _ _ _ _ S3 (by assumption) (by assumption) (by assumption) (by assumption) ⟨_, _, _, by assumption, by assumption, by assumption, rfl⟩ fE (err_news (ps := [_, _]) nE) q1 q2 ⟨_, _, _, List.mem_append_left _ (by assumption), List.mem_append_left _ (by assumption), ?_⟩
  refine DatIn.mono ?_ (by assumption)
  intro p hp
  simp only [List.mem_append, List.mem_cons, List.not_mem_nil, or_false] at hp ⊢
  rcases hp with h | h | h <;> simp only [h, true_or, or_true]
end
end Mine
end

section
open PySem PySem.W PySem.Spec PySem.Calls PyProof.Rows PyProof.V
set_option maxRecDepth 100000
set_option maxHeartbeats 8000000
namespace Mine

local macro_rules | `(tactic| k_all) => `(tactic| first | with_reducible assumption | exact allLt_ne (by with_reducible assumption) | exact ne_app (by with_reducible assumption) (by first | with_reducible assumption | exact Apart.addr (by with_reducible assumption) (by repeat (first | exact List.Mem.head _ | apply List.Mem.tail))))
local macro_rules | `(tactic| ktr_units) => `(tactic| (have hcL9 := cLine_is; (try simp only [units_in1, units_deeper, units_under_make, Around.mark_units, units_caller] at *); (try dsimp only [ktrTop] at *); omega))
local macro_rules | `(tactic| k_room) => `(tactic| ktr_room)
local macro_rules | `(tactic| k_units) => `(tactic| ktr_units)

section
/-- the exception in flight: its class, its own dict, its first traceback entry -/
def TrD (h base : Heap) (e : Addr) (dx : Option Addr) (fl : Value) : Prop :=
  ∃ oe vs T oT ts, h.get? e = some oe ∧ (oe.cls = .ref 51 ∧ oe.dict = dx) ∧ oe.data = .fields vs ∧ vs[1]? = some (.ref T) ∧ base.get? T = none ∧ T ≠ e ∧ h.get? T = some oT ∧ oT.data = .fields ts ∧ ts[3]? = some fl
theorem dict_mapFields (o : Obj) (f : Array Value → Array Value) : (Obj.mapFields f o).dict = o.dict := by
  obtain ⟨c, d, dt, sl⟩ := o
  cases dt <;> rfl
variable {M : Model} {A : Around} {E : Value → Shared → Prop} {s : Shared}

theorem entryD {base : Heap} {env : Env} {outer : List Env} {L e : Addr} {oe : Obj} {vs : Array Value} {head : Value} {hadNext : Bool} {Q : Unit → Shared → Prop}
    (hfr : A.frames = some (env :: outer)) (hl : s.heap.FunFrames base (env :: outer)) (hf : env.frame = some L)
    (he : s.heap.get? e = some oe) (hc : oe.cls = .ref 51) (hkb : base.StaysIn s.heap) (hen : base.get? e = none) (hd : oe.data = .fields vs) (hsz : 1 < vs.size)
    (h : ∀ h', base.StaysIn h' → h'.FunFrames base (env :: outer) → TrD h' base e oe.dict (rawInt L) → s.heap.UpToSlots h' → Q () { s with heap := h' }) :
    wpAny M A (do let a ← frameOf env; let pl ← entryPlaceOf L hadNext; let b ← EntryCells.newEntry head a .none (rawInt L) .none pl; setField (.ref e) 1 b) Q E s := by
  have hene : e ∉ (env :: outer).filterMap (·.frame) := fun hm => by
    obtain ⟨_, o, ho, hnf⟩ := hl.mem hm
    rw [he] at ho; injection ho with ho; subst ho; exact hnf vs hd
  refine wpAny_bind (wpAny_frameOf_fun hfr hl hf fun h₁ hs₁ => ?_)
  refine wpAny_bind (wpAny_entryPlaceOf fun pl hpl => ?_)
  unfold EntryCells.newEntry newFields
  refine wpAny_bind (wpAny_newObj_type ?_ (hpl.sizeOk5 _ _ _ _ _))
  have he₁ : h₁.get? e = some oe := (hs₁.2.1 e hene).trans he
  have kb₁ : base.StaysIn h₁ := fun b o hbo => (hs₁.2.1 b fun hm => by rw [(hl.mem hm).1] at hbo; cases hbo).trans (hkb b o hbo)
  generalize hTo : ({ cls := .type "traceback", dict := none, data := .fields ([head, .ref L, .none, rawInt L, .none] ++ (if pl.isEmpty then List.replicate 6 Value.none else pl)).toArray } : Obj) = oT
  have hTd : oT.data = .fields ([head, .ref L, .none, rawInt L, .none] ++ (if pl.isEmpty then List.replicate 6 Value.none else pl)).toArray := by rw [← hTo]
  have hTf : oT.isFreed = false := Obj.isFreed_of_fields hTd
  have he₂ := Heap.get?_push_of_some (h := h₁) oT he₁
  refine wpAny_setField he₂ hd hsz ?_
  have hTe : h₁.objs.size ≠ e := Nat.ne_of_gt (Heap.lt_size he₁)
  have hd₃ := Obj.data_mapFields hd (·.setIfInBounds 1 (Value.ref h₁.objs.size))
  have he₃ := Heap.get?_update_self (Obj.mapFields (·.setIfInBounds 1 (Value.ref h₁.objs.size))) he₂ (Obj.isFreed_of_fields hd₃)
  have hT₃ := (Heap.get?_update_other (h₁.push oT) (Obj.mapFields (·.setIfInBounds 1 (Value.ref h₁.objs.size))) (Ne.symm hTe)).trans (Heap.get?_push_size h₁ hTf)
  have keep : ∀ b o, b ≠ e → h₁.get? b = some o → ((h₁.push oT).update e (Obj.mapFields (·.setIfInBounds 1 (Value.ref h₁.objs.size)))).get? b = some o := fun b o hbe hb => by
    rw [Heap.get?_update_other _ _ (Ne.symm hbe)]
    exact Heap.get?_push_of_some _ hb
  have noRecord : ∀ b o, s.heap.get? b = some o → (∀ vs, o.data ≠ .fields vs) → b ≠ e := fun b o hb hnf q => by
    rw [q, he] at hb; injection hb with hb; subst hb; exact hnf vs hd
  refine h _ (fun b o hbo => keep b o (fun q => by rw [q, hen] at hbo; cases hbo) (kb₁ b o hbo)) (hl.of_keeps fun b o hb hnf => ?_) ?_ fun b o hb hnf => ?_
  · obtain ⟨sl, hs⟩ := hs₁.2.2 b o hb
    exact ⟨_, keep b _ (noRecord b o hb hnf) hs, rfl⟩
  · exact ⟨_, _, h₁.objs.size, _, _, he₃, ⟨(Obj.cls_mapFields _ _).trans hc, dict_mapFields _ _⟩, hd₃, by simp [hsz], kb₁.fresh, hTe, hT₃, hTd, by first | (simp; done) | (rcases hpl with rfl | ⟨_, _, _, _, _, _, _, rfl⟩ <;> simp)⟩
  · obtain ⟨sl, hs⟩ := hs₁.2.2 b o hb
    exact ⟨sl, keep b _ (noRecord b o hb hnf) hs⟩

theorem flightD {base : Heap} {l : List Env} {e : Addr} {dx : Option Addr} {fl : Value} {Q : Unit → Shared → Prop}
    (hkb : base.StaysIn s.heap) (hl : s.heap.FunFrames base l) (ht : TrD s.heap base e dx fl)
    (h : ∀ h', base.StaysIn h' → h'.FunFrames base l → TrD h' base e dx .none → s.heap.UpToSlots h' → Q () { s with heap := h' }) :
    wpAny M A (setFlight (.ref e) none) Q E s := by
  obtain ⟨oe, vs, T, oT, ts, he, hcls, hd, h1, hnT, hTe, hT, hdT, h3⟩ := ht
  have hsz3 : 3 < ts.size := (Array.getElem?_eq_some_iff.mp h3).1
  have other : ∀ b, b ≠ T → (s.heap.update T (Obj.mapFields (·.setIfInBounds 3 ((none : Option Addr).elim Value.none fun f => rawInt f)))).get? b = s.heap.get? b :=
    fun b hb => Heap.get?_update_other _ _ (Ne.symm hb)
  have noRecord : ∀ b o, s.heap.get? b = some o → (∀ vs, o.data ≠ .fields vs) → b ≠ T := fun b o hb hnf q => by
    rw [q, hT] at hb; injection hb with hb; subst hb; exact hnf ts hdT
  unfold setFlight
  refine wpAny_bind (wpAny_field he hd h1 ?_)
  rw [if_pos (show (Value.ref T != Value.none) = true from by simp)]
  refine wpAny_setField hT hdT hsz3 (h _ (fun b o hbo => (other b fun q => by rw [q, hnT] at hbo; cases hbo).trans (hkb b o hbo))
    (hl.of_keeps fun b o hb hnf => ⟨o, (other b (noRecord b o hb hnf)).trans hb, rfl⟩) ?_ fun b o hb hnf => ⟨o.slots, (other b (noRecord b o hb hnf)).trans hb⟩)
  exact ⟨oe, vs, T, _, _, (other e (Ne.symm hTe)).trans he, hcls, hd, h1, hnT, hTe, Heap.get?_update_self _ hT (Obj.isFreed_of_fields (Obj.data_mapFields hdT _)), Obj.data_mapFields hdT _, by simp [hsz3]⟩

theorem noteD {base : Heap} {env : Env} {outer : List Env} {L e : Addr} {dx : Option Addr} {Q : Unit → Shared → Prop}
    (hfr : A.frames = some (env :: outer)) (hl : s.heap.FunFrames base (env :: outer)) (hf : env.frame = some L) (ht : TrD s.heap base e dx .none) (hkb : base.StaysIn s.heap) (hen : base.get? e = none)
    (h : ∀ h', base.StaysIn h' → h'.FunFrames base (env :: outer) → TrD h' base e dx (rawInt L) → s.heap.UpToSlots h' → Q () { s with heap := h' }) : wpAny M A (noteFrame (.ref e) env) Q E s := by
  obtain ⟨oe, vs, T, oT, ts, he, ⟨hcls, rfl⟩, hd, h1, hnT, hTe, hT, hdT, h3⟩ := ht
  unfold noteFrame
  simp only [hf]
  refine wpAny_bind (wpAny_field he hd h1 ?_)
  rw [if_pos (show (Value.ref T != Value.none) = true from by simp)]
  refine wpAny_bind (wpAny_field hT hdT h3 ?_)
  rw [if_neg (show ¬ ((Value.none == rawInt L) = true) from by simp [rawInt])]
  refine wpAny_bind (wpAny_setField hT hdT (Array.getElem?_eq_some_iff.mp h3).1 ?_)
  have other : ∀ b, b ≠ T → (s.heap.update T (Obj.mapFields (·.setIfInBounds 3 Value.none))).get? b = s.heap.get? b := fun b hb => Heap.get?_update_other _ _ (Ne.symm hb)
  have noRecord : ∀ b o, s.heap.get? b = some o → (∀ vs, o.data ≠ .fields vs) → b ≠ T := fun b o hb hnf q => by
    rw [q, hT] at hb; injection hb with hb; subst hb; exact hnf ts hdT
  exact entryD hfr (hl.of_keeps fun b o hb hnf => ⟨o, (other b (noRecord b o hb hnf)).trans hb, rfl⟩) hf ((other e (Ne.symm hTe)).trans he) hcls
    (fun b o hbo => (other b fun q => by rw [q, hnT] at hbo; cases hbo).trans (hkb b o hbo)) hen hd (Array.getElem?_eq_some_iff.mp h1).1
    fun h' x1 x2 x3 x4 => h h' x1 x2 x3 fun b o hb hnf => x4 b o ((other b (noRecord b o hb hnf)).trans hb) hnf

/-- in flight above the frames `l` -/
def FlyD (base : Heap) (l : List Env) (e : Addr) (dx : Option Addr) (h : Heap) : Prop := base.StaysIn h ∧ base.get? e = none ∧ h.FunFrames base l ∧ TrD h base e dx .none

theorem leaveD_first {base : Heap} {env : Env} {outer : List Env} {L e t dx : Addr} {Q : Unit → Shared → Prop}
    (hfr : A.frames = some (env :: outer)) (hl : s.heap.FunFrames base (env :: outer)) (hf : env.frame = some L) (he : s.heap.get? e = some (excD t dx)) (hkb : base.StaysIn s.heap) (hen : base.get? e = none)
    (h : ∀ h', FlyD base outer e (some dx) h' → s.heap.UpToSlots h' → Q () { s with heap := h' }) : wpAny M A (leaving env (.ref e)) Q E s := by
  unfold leaving noteFrame
  simp only [hf]
  refine wpAny_bind (wpAny_bind (wpAny_field he rfl (x := .none) rfl ?_))
  rw [if_neg (by decide)]
  refine entryD hfr hl hf he rfl hkb hen rfl (Nat.le_of_ble_eq_true rfl) fun h₁ x1 x2 x3 x4 => ?_
  refine flightD x1 x2 x3 fun h₂ y1 y2 y3 y4 => ?_
  obtain ⟨_, _, y2⟩ := y2
  exact h h₂ ⟨y1, hen, y2, y3⟩ (x4.trans y4)

theorem leaveD_on {base : Heap} {env : Env} {outer : List Env} {L e : Addr} {dx : Option Addr} {Q : Unit → Shared → Prop}
    (hfr : A.frames = some (env :: outer)) (hf : env.frame = some L) (hfl : FlyD base (env :: outer) e dx s.heap)
    (h : ∀ h', FlyD base outer e dx h' → s.heap.UpToSlots h' → Q () { s with heap := h' }) : wpAny M A (leaving env (.ref e)) Q E s := by
  obtain ⟨f1, f2, f3, f4⟩ := hfl
  unfold leaving
  refine wpAny_bind (noteD hfr f3 hf f4 f1 f2 fun h₁ x1 x2 x3 x4 => ?_)
  refine flightD x1 x2 x3 fun h₂ y1 y2 y3 y4 => ?_
  obtain ⟨_, _, y2⟩ := y2
  exact h h₂ ⟨y1, f2, y2, y3⟩ (x4.trans y4)
end

/-- an own exception on its way out, above the heap `G` and the frames `l`; the ledger stays -/
def RaisedD (base G : Heap) (l : List Env) (e : Addr) (dx : Option Addr) (news : List (Addr × Obj)) (h : Heap) : Prop :=
  ∃ B, base.StaysIn B ∧ (∀ b o, G.get? b = some o → b ∉ l.filterMap (·.frame) → B.get? b = some o) ∧ (∀ q ∈ news, B.get? q.1 = some q.2 ∧ G.get? q.1 = none ∧ base.get? q.1 = none) ∧ FlyD B l e dx h

section
variable {M : Model} {A : Around} {E : Value → Shared → Prop} {s' : Shared} {base g g₂ : Heap} {outer : List Env} {L a e : Addr} {m : Str → Option Value} {name : Str} {scope : Scope} {cd : Value} {Q : Unit → Shared → Prop} {news : List (Addr × Obj)}

theorem leave_raiseD {t dx : Addr} (K : Below A base outer g) (F : Fr g L s'.heap m) (N : News g L s'.heap ((e, excD t dx) :: news)) (hne : ∀ p ∈ news, p.1 ≠ e)
    (hQ : ∀ h', RaisedD base g outer e (some dx) news h' → g.UpToSlots h' → Q () { s' with heap := h' }) (hk : scope.kind = .function := by rfl) :
    wpAny M (A.deeper (envOf name scope L a cd)) (leaving (envOf name scope L a cd) (.ref e)) Q E s' := by
  have K' := K.push (name := name) (a := a) (cd := cd) F hk
  have he := N _ (List.mem_cons_self ..)
  have heK : e ∉ (envOf name scope L a cd :: outer).filterMap (·.frame) := fun hm => by
    obtain ⟨_, o, ho, hnf⟩ := K'.frames.mem hm
    rw [he.1] at ho; cases ho; exact hnf _ rfl
  have enb : base.get? e = none := fresh_of_stays K.stays he.2.2
  let as := e :: (envOf name scope L a cd :: outer).filterMap (·.frame)
  have hin : ∀ env ∈ (envOf name scope L a cd :: outer), ∀ b, env.frame = some b → b ∈ as := fun env he b hb => List.mem_cons_of_mem _ (List.mem_filterMap.mpr ⟨env, he, hb⟩)
  have st : base.StaysIn (hideAll s'.heap as) := fun b o q => hideAll_get _ (K'.stays b o q) fun hm => by
    rcases List.mem_cons.mp hm with z | hm
    · rw [z, enb] at q; cases q
    · rw [(K'.frames.mem hm).1] at q; cases q
  have sg : ∀ b o, g.get? b = some o → b ∉ outer.filterMap (·.frame) → (hideAll s'.heap as).get? b = some o := fun b o q nm => hideAll_get _ (F.keep b o q) fun hm => by
    rcases List.mem_cons.mp hm with z | hm
    · rw [z, he.2.2] at q; cases q
    · rcases kts_mem hm with z | z
      · rw [z, kts_self F] at q
        cases q
      · exact nm z
  have hl : ∀ q ∈ news, (hideAll s'.heap as).get? q.1 = some q.2 ∧ g.get? q.1 = none ∧ base.get? q.1 = none := fun q hq => by
    have hq' := N q (List.mem_cons_of_mem _ hq)
    refine ⟨hideAll_get _ hq'.1 fun hm => ?_, hq'.2.2, fresh_of_stays K.stays hq'.2.2⟩
    rcases List.mem_cons.mp hm with z | hm
    · exact hne q hq z
    · rcases kts_mem hm with z | z
      · exact hq'.2.1 z
      · obtain ⟨_, o, ho, _⟩ := K.frames.mem z
        rw [hq'.2.2] at ho; cases ho
  refine leaveD_first (base := hideAll s'.heap as) K'.stack (funFrames_hide K'.frames hin) rfl he.1 (fun b o q => of_hideAll _ q) (hideAll_none _ (List.mem_cons_self ..)) fun h' x1 x2 => ?_
  exact hQ h' ⟨_, st, sg, hl, x1⟩ ((Heap.UpToSlots.of_keeps F.keep).trans x2)

theorem leave_onD {dx : Option Addr} (K : Below A base outer g) (F : Fr g L g₂ m) (R : RaisedD base g₂ (envOf name scope L a cd :: outer) e dx news s'.heap) (hsm : g₂.UpToSlots s'.heap)
    (hQ : ∀ h', RaisedD base g outer e dx news h' → g.UpToSlots h' → Q () { s' with heap := h' }) :
    wpAny M (A.deeper (envOf name scope L a cd)) (leaving (envOf name scope L a cd) (.ref e)) Q E s' := by
  obtain ⟨B, hB, hBG, hl, hfl⟩ := R
  exact leaveD_on (Around.frames_deeper K.stack) rfl hfl fun h' x1 x2 =>
    hQ h' ⟨B, hB, fun b o q nm => hBG b o (F.keep b o q) (fun hm => by
      rcases kts_mem hm with z | z
      · rw [z, kts_self F] at q
        cases q
      · exact nm z), fun q hq => ⟨(hl q hq).1, kts_none F.keep (hl q hq).2.1, (hl q hq).2.2⟩, x1⟩ ((Heap.UpToSlots.of_keeps F.keep).trans (hsm.trans x2))
end
end Mine
end

section
open PySem PySem.W PySem.Spec PySem.Calls PyProof.Rows PyProof.V
set_option maxRecDepth 100000
set_option maxHeartbeats 8000000
namespace Mine

local macro_rules | `(tactic| k_all) => `(tactic| first | with_reducible assumption | exact allLt_ne (by with_reducible assumption) | exact ne_app (by with_reducible assumption) (by first | with_reducible assumption | exact Apart.addr (by with_reducible assumption) (by repeat (first | exact List.Mem.head _ | apply List.Mem.tail))))
local macro_rules | `(tactic| ktr_units) => `(tactic| (have hcL9 := cLine_is; (try simp only [units_in1, units_deeper, units_under_make, Around.mark_units, units_caller] at *); (try dsimp only [ktrTop] at *); omega))
local macro_rules | `(tactic| k_room) => `(tactic| ktr_room)
local macro_rules | `(tactic| k_units) => `(tactic| ktr_units)

section
variable {prog : Program} {w : World} {A₀ : Around} {E : Value → Shared → Prop} {s' : Shared} {base g g₀ G : Heap} {outer : List Env} {L a e : Addr} {m : Str → Option Value} {name : Str} {scope : Scope} {cd : Value} {dx : Option Addr}
  {n : Str} {b₀ : Stmt} {suite : List Stmt} {pos np : Pos} {rest : List ExceptHandler} {Q : Flow → Shared → Prop} {news : List (Addr × Obj)} {KF : Frag}
  {p : Program} {loose : List Str} {mean : ExcName → Option Value} {mg mb : Str → Option Value} {x : Str}

/-- `except PrologError as n` in a called def -/
theorem caughtD (R : RaisedD base G (envOf name scope L a cd :: outer) e dx news s'.heap) (F : Fr g L G m) (K : Below A₀ base outer g) (hsm : G.UpToSlots s'.heap) (XB : KF.In base) (TB : Top p loose mean mg mb base)
    (D : KtsDicts (outer.filterMap (·.frame)) g) (T0 : KtsTurn (outer.filterMap (·.frame)) g₀ g)
    (ex : nsIn KF mainGlobals x = some (some (.ref 51))) (q : ktsIn KF 51 "BaseException" = true)
    (k : ∀ h' g' oe tk, KtsTurn (outer.filterMap (·.frame)) g₀ g' → Fr g' L h' (fun y => if y = n then some (.ref e) else m y) → News g' L h' ((e, oe) :: news) → oe.cls = .ref 51 → oe.dict = dx → (∃ vs, oe.data = .fields vs) → Below A₀ base outer g' → KF.In g' → Top p loose mean mg mb g' → KtsDicts (outer.filterMap (·.frame)) g' →
      wpAny (model prog w) ((A₀.deeper (envOf name scope L a cd)).mark (some (.ref e))) (execs (b₀ :: suite) (envOf name scope L a cd))
        (fun f s₄ => wpAny (model prog w) (A₀.deeper (envOf name scope L a cd)) (do bindName (envOf name scope L a cd) n .none; unbindBehindTheSuite (envOf name scope L a cd) n pos) (fun _ s₅ => Q f s₅) E s₄)
        (AsSuiteRaised (model prog w) ((A₀.deeper (envOf name scope L a cd)).mark (some (.ref e))) (envOf name scope L a cd) n pos (notedBy (model prog w) ((A₀.deeper (envOf name scope L a cd)).mark (some (.ref e))) (envOf name scope L a cd) (cameBackBy (model prog w) (A₀.deeper (envOf name scope L a cd)) (envOf name scope L a cd) E)))
        { s' with heap := h', toks := tk })
    (hk : scope.kind = .function := by rfl) (hlo : (envOf name scope L a cd).kindOf n = some .local := by rfl) (hx : (envOf name scope L a cd).kindOf x = some .globalImplicit := by rfl) (hd : (x == ("__debug__" : Str)) = false := by decide) :
    wpAny (model prog w) (A₀.deeper (envOf name scope L a cd)) (noteFrame (.ref e) (envOf name scope L a cd))
      (fun _ s₂ => wpAny (model prog w) (A₀.deeper (envOf name scope L a cd)) (setFlight (.ref e) none) (fun _ s₃ =>
        wpAny (model prog w) (A₀.deeper (envOf name scope L a cd)) (handleBy (.ref e) (envOf name scope L a cd) (.ExceptHandler (some (.Name x np)) (some n) (b₀ :: suite) pos :: rest)) Q E s₃) E s₂) E s' := by
  obtain ⟨B, hB, hBG, hl, hfl⟩ := R
  have hL : B.get? L = none := by
    obtain ⟨_, ⟨L', _, hf, hn', _⟩, _⟩ := hfl.2.2.1
    obtain rfl : L = L' := Option.some.inj hf
    exact hn'
  obtain ⟨f1, f2, f3, f4⟩ := hfl
  refine noteD (Around.frames_deeper K.stack) f3 rfl f4 f1 f2 fun h₄ y1 y2 y3 hsm₄ => ?_
  refine flightD y1 y2 y3 fun h₅ z1 z2 z3 hsm₅' => ?_
  have hsm₅ := hsm₄.trans hsm₅'
  obtain ⟨g₅, T₅, F₅, K₅⟩ := kts_ground K F hBG z1 (hsm.trans hsm₅)
  have X₅ : KF.In g₅ := XB.keeps K₅.stays
  have P₅ : TopRead p loose mg mb g₅ := topRead_of (TB.keeps K₅.stays)
  have z3' := z3
  obtain ⟨ob, _, _, _, _, hob, ⟨hobc, _⟩, _⟩ := z3
  obtain ⟨nm, q', N, bs, bm, hdct, sn, sub, ab, col, dd, k0, k1, k2, k3, k5, newId, hC, hbase, hbT⟩ := kts_cls X₅ q
  have hC₅ := F₅.keep _ _ hC
  refine wpAny_handleBy_cons (codeAny_handlers_test (name_K F₅ X₅ P₅ ex ?_ hk hx hd)) (by intro q; cases q)
  refine wpAny_excMatches_sub_self hC₅ hob hobc hbase (codeAny_handlers_suite_as ?_)
  refine flightD z1 z2 z3' fun h₆ v1 v2 v3 hsm₆ => ?_
  obtain ⟨g₆, T₆, F₆, K₆⟩ := kts_ground K F hBG v1 ((hsm.trans hsm₅).trans hsm₆)
  obtain ⟨oe, vs, _, _, _, hoe, ⟨hoec, hoeD⟩, hoed, _⟩ := v3
  have ne₆ : g₆.get? e = none := T₆.none_ _ (kts_fresh F hBG f2 fun o ho m => by
    obtain ⟨_, o', ho', hd⟩ := K.frames.mem m
    rw [ho] at ho'
    cases ho'
    obtain ⟨sl, hs⟩ := ((hsm.trans hsm₅).trans hsm₆) _ _ (F.keep _ _ ho) hd
    rw [hoe] at hs
    cases hs
    exact hd _ hoed)
  have Nl : News g₆ L h₆ news := fun q hq => ⟨v1 _ _ (hl q hq).1, (fun z => by have := (hl q hq).1; rw [z, hL] at this; cases this), T₆.none_ _ (kts_none F.keep (hl q hq).2.1)⟩
  have N₆ := News.more F₆ Nl hoe (fun es n q => by rw [hoed] at q; cases q) ne₆
  have X₆ : KF.In g₆ := XB.keeps K₆.stays
  have P₆ : Top p loose mean mg mb g₆ := TB.keeps K₆.stays
  have D₆ : KtsDicts (outer.filterMap (·.frame)) g₆ := D.turn T₆
  refine stN F₆ N₆ (fun h₇ F₇ N₇ => ?_) hk hlo
  exact k h₇ g₆ oe _ (T0.trans T₆) F₇ N₇ hoec hoeD ⟨vs, hoed⟩ K₆ X₆ P₆ D₆
end
end Mine
end

section
open PySem PySem.W PySem.Spec PySem.Calls PyProof.Rows PyProof.V
set_option maxRecDepth 100000
set_option maxHeartbeats 8000000
namespace Mine

local macro_rules | `(tactic| k_all) => `(tactic| first | with_reducible assumption | exact allLt_ne (by with_reducible assumption) | exact ne_app (by with_reducible assumption) (by first | with_reducible assumption | exact Apart.addr (by with_reducible assumption) (by repeat (first | exact List.Mem.head _ | apply List.Mem.tail))))
local macro_rules | `(tactic| ktr_units) => `(tactic| (have hcL9 := cLine_is; (try simp only [units_in1, units_deeper, units_under_make, Around.mark_units, units_caller] at *); (try dsimp only [ktrTop] at *); omega))
local macro_rules | `(tactic| k_room) => `(tactic| ktr_room)
local macro_rules | `(tactic| k_units) => `(tactic| ktr_units)
local macro_rules | `(tactic| ktr_unf) => `(tactic| first | with_reducible assumption | exact Apart.addr (by with_reducible assumption) (by repeat (first | exact List.Mem.head _ | apply List.Mem.tail)))
local macro_rules | `(tactic| ktr_rel) => `(tactic| first | exact TailF.app (by assumption) | exact TailF.nil | (refine' TailF.cons ?a ?b; (case a => ktr_unf); (case b => ktr_rel)))
local macro_rules | `(tactic| walk_at "getMethod ref") => `(tactic| (k_here; k_dflt (refine' meth_sym ?F ?X ?N ?G ?S ?hg ?hf ?ht ?hl ?_; (case F => k_asm); (case X => k_asm); (case N => k_asm); (case S => with_reducible assumption); (case G => ktr_rel); (case hg => k_is); (case hf => k_is); (case ht => k_is); (case hl => (intros; k_get)); k_whole)))
local macro_rules | `(tactic| walk_at "call ref") => `(tactic| (k_here; (with_reducible show wpAny _ _ (call (Value.ref 88) _) _ _ _); k_dflt (refine' atomS ?B ?F ?X ?N ?G ?S ?T ?hk ?hlen ?hd ?hu ?_; (case B => k_asm); (case F => k_asm); (case X => k_asm); (case N => k_asm); (case S => with_reducible assumption); (case G => ktr_rel); (case T => k_asm); (case hk => first | rfl | assumption); (case hlen => omega); (case hd => ktr_room); (case hu => ktr_units); k_whole); intro k9 t9 h9 tk9 tab9 tx9 S9 p9 l9 q9 F9 N9 A9; (try simp only [List.cons_append, List.nil_append] at N9); (try k_sweep); (try dsimp only); (try k_fold)))
local macro_rules | `(tactic| walk_at "call ref") => `(tactic| (k_here; (with_reducible show wpAny _ _ (call (Value.ref 109) _) _ _ _); k_dflt (refine' funcS ?B ?F ?X ?N ?G ?S ?T ?hk ?hlen ?hlenF ?hd ?hu ?_; (case B => k_asm); (case F => k_asm); (case X => k_asm); (case N => k_asm); (case S => with_reducible assumption); (case G => ktr_rel); (case T => k_asm); (case hk => first | rfl | assumption); (case hlen => omega); (case hlenF => omega); (case hd => ktr_room); (case hu => ktr_units); k_whole); intro k9 ka9 t9 h9 tk9 tab9 tx9 fs9 S9 p9 pf9 l9 lf9 q9 qf9 F9 N9 A9; (try simp only [List.cons_append, List.nil_append] at N9); (try k_sweep); (try dsimp only); (try k_fold)))


local macro_rules | `(tactic| walk_at "call ref") => `(tactic| (k_here; (with_reducible show wpAny _ _ (call (Value.ref 200) _) _ _ _); k_dflt (refine' resS ?B ?F ?X ?N ?hA ?S ?T ?hk ?hlen ?hlenF ?hd ?hu ?_; (case B => k_asm); (case F => k_asm); (case X => k_asm); (case S => with_reducible assumption); (case N => k_asm); (case hA => with_reducible assumption); (case T => k_asm); (case hk => first | rfl | assumption); (case hlen => omega); (case hlenF => omega); (case hd => ktr_room); (case hu => ktr_units); k_whole); intro e9 t9 dx9 f9 ext9 h9 tk9 tab9 tx9 fs9 S9 p9 pf9 l9 lf9 r9 F9 N9 n9 A9 b9; (try k_sweep); (try dsimp only); (try k_fold)))


local macro_rules | `(tactic| walk_at "call ref") => `(tactic| (k_here; (with_reducible show wpAny _ _ (call (Value.ref 186) _) _ _ _); k_dflt (refine' typS ?B ?F ?X ?N ?hC ?hA ?S ?T ?hk ?hlen ?hlenF ?hd ?hu ?_; (case B => k_asm); (case F => k_asm); (case X => k_asm); (case S => with_reducible assumption); (case N => k_asm); (case hC => first | with_reducible assumption | exact fun p hp => of_allLt (by with_reducible assumption) p hp); (case hA => with_reducible assumption); (case T => k_asm); (case hk => first | rfl | assumption); (case hlen => omega); (case hlenF => omega); (case hd => ktr_room); (case hu => ktr_units); k_whole); intro e9 t9 dx9 f9 ext9 h9 tk9 tab9 tx9 fs9 S9 p9 pf9 l9 lf9 r9 F9 N9 n9 A9 b9; (try k_sweep); (try dsimp only); (try k_fold)))

inductive Out | int (v : Int) | res | typ
def powO (b e mb : Int) : Out := if b = 1 then .int 1 else if b = -1 then (if e.fmod 2 = 0 then .int 1 else .int (-1)) else if e < 0 then .typ else if e = 0 then .int 1 else if b = 0 then .int 0 else
  if mb ≤ ((Builtin.Int.intBits b : Int) - 1) * e then .res else .int (b ^ e.toNat)
theorem powO_1 {b e mb : Int} (h : b = 1) : powO b e mb = .int 1 := by unfold powO; rw [if_pos h]
theorem powO_2 {b e mb : Int} (h : b ≠ 1) (h2 : b = -1) (h3 : e.fmod 2 = 0) : powO b e mb = .int 1 := by unfold powO; rw [if_neg h, if_pos h2, if_pos h3]
theorem powO_3 {b e mb : Int} (h : b ≠ 1) (h2 : b = -1) (h3 : e.fmod 2 ≠ 0) : powO b e mb = .int (-1) := by unfold powO; rw [if_neg h, if_pos h2, if_neg h3]
theorem powO_4 {b e mb : Int} (h : b ≠ 1) (h2 : b ≠ -1) (h3 : e < 0) : powO b e mb = .typ := by unfold powO; rw [if_neg h, if_neg h2, if_pos h3]
theorem powO_5 {b e mb : Int} (h : b ≠ 1) (h2 : b ≠ -1) (h3 : ¬ e < 0) (h4 : e = 0) : powO b e mb = .int 1 := by unfold powO; rw [if_neg h, if_neg h2, if_neg h3, if_pos h4]
theorem powO_6 {b e mb : Int} (h : b ≠ 1) (h2 : b ≠ -1) (h3 : ¬ e < 0) (h4 : e ≠ 0) (h5 : b = 0) : powO b e mb = .int 0 := by unfold powO; rw [if_neg h, if_neg h2, if_neg h3, if_neg h4, if_pos h5]
theorem powO_7 {b e mb : Int} (h : b ≠ 1) (h2 : b ≠ -1) (h3 : ¬ e < 0) (h4 : e ≠ 0) (h5 : b ≠ 0) (h6 : mb ≤ ((Builtin.Int.intBits b : Int) - 1) * e) : powO b e mb = .res := by unfold powO; rw [if_neg h, if_neg h2, if_neg h3, if_neg h4, if_neg h5, if_pos h6]
theorem powO_8 {b e mb : Int} (h : b ≠ 1) (h2 : b ≠ -1) (h3 : ¬ e < 0) (h4 : e ≠ 0) (h5 : b ≠ 0) (h6 : ¬ mb ≤ ((Builtin.Int.intBits b : Int) - 1) * e) : powO b e mb = .int (b ^ e.toNat) := by unfold powO; rw [if_neg h, if_neg h2, if_neg h3, if_neg h4, if_neg h5, if_neg h6]
local macro_rules | `(tactic| walk_at "pow ends") => `(tactic| first
  | exact powO_1 (by assumption)
  | exact powO_2 (by assumption) (by assumption) (by assumption)
  | exact powO_3 (by assumption) (by assumption) (by assumption)
  | exact powO_4 (by assumption) (by assumption) (by assumption)
  | exact powO_5 (by assumption) (by assumption) (by assumption) (by assumption)
  | exact powO_6 (by assumption) (by assumption) (by assumption) (by assumption) (by assumption)
  | exact powO_7 (by assumption) (by assumption) (by assumption) (by assumption) (by assumption) (by assumption)
  | exact powO_8 (by assumption) (by assumption) (by assumption) (by assumption) (by assumption) (by assumption))
theorem mulOkP {b e : Int} (h : Builtin.Int.intBits b ≤ 20000) : IntMulOk ((Builtin.Int.intBits b : Int) - 1) e := by
  refine IntMulOk.of_left (intBits_le_iff.mpr ?_)
  have : ((Builtin.Int.intBits b : Int) - 1).natAbs ≤ 20001 := by omega
  exact Nat.lt_of_le_of_lt this (by decide)
theorem bits2 {b : Int} (h0 : b ≠ 0) (h1 : b ≠ 1) (h2 : b ≠ -1) : 2 ≤ Builtin.Int.intBits b := by
  rcases Nat.lt_or_ge (Builtin.Int.intBits b) 2 with h | h
  · have := intBits_le_iff.mp (Nat.le_of_lt_succ h)
    omega
  · exact h
theorem powSz {b e mb : Int} (h0 : b ≠ 0) (h1 : b ≠ 1) (h2 : b ≠ -1) (he : 0 ≤ e) (hmb : mb ≤ 10000) (h : ((Builtin.Int.intBits b : Int) - 1) * e < mb) : (Builtin.Int.intBits b : Int) * e ≤ 2 ^ 27 := by
  have hb := bits2 h0 h1 h2
  have h3 : (Builtin.Int.intBits b : Int) * e ≤ (2 * ((Builtin.Int.intBits b : Int) - 1)) * e := Int.mul_le_mul_of_nonneg_right (by omega) he
  rw [Int.mul_assoc] at h3
  omega
local macro_rules | `(tactic| walk_at "binaryOp Mult int int") => `(tactic| (with_reducible refine mul_int ?_ (mulOkP (by assumption))))
local macro_rules | `(tactic| walk_at "binaryOp Pow int int") => `(tactic| (with_reducible refine pow_int (by omega) (powSz (by assumption) (by assumption) (by assumption) (by omega) (by assumption) (by omega)) ?_))
section
variable {w : World} {A : Around} {E : Value → Shared → Prop} {s : Shared} {env : Env} {h₀ : Heap} {L : Addr} {m : Str → Option Value} {news : List (Addr × Obj)}
/-- a value that `raise` raises as it is -/
def RaisD (w : World) (E : Value → Shared → Prop) (v : Value) (s₁ : Shared) : Prop :=
  ∃ a t dx, v = .ref a ∧ (hd.heap_1 w.params).In s₁.heap ∧ s₁.heap.get? a = some (excD t dx) ∧ E (.ref a) s₁
theorem RaisD.mk {a t dx : Addr} (F : Fr h₀ L s.heap m) (N : News h₀ L s.heap news) (X₀ : (hd.heap_1 w.params).In h₀) (hm : (a, excD t dx) ∈ news) (h : E (.ref a) s) : RaisD w E (.ref a) s :=
  ⟨a, t, dx, rfl, X₀.keeps F.keep, (N _ hm).1, h⟩
theorem Raise_D {e : Expr} {pos : Pos} {Q : Flow → Shared → Prop} (hh : A.handled = none)
    (h : wpAny (model PySem.Challenge.pw_rh0073_01 w) A (eval e env) (RaisD w E) E s) : wpAny (model PySem.Challenge.pw_rh0073_01 w) A (exec (.Raise (some e) none pos) env) Q E s := by
  show wpAny _ A (do standAt pos; raiseStmt env (some (do let v ← eval e env; standAt pos; pure v)) none) Q E s
  refine wpAny_bind (wpAny_standAt ?_)
  unfold raiseStmt
  dsimp only
  refine wpAny_bind (wpAny_bind (wpAny_mono h (fun v s₁ h₁ => wpAny_bind (wpAny_standAt (wpAny_pure ?_))) fun _ _ x => x))
  obtain ⟨a, t, dx, rfl, X, he, hE⟩ := h₁
  obtain ⟨k0, k1, k2, k3, k5, hl⟩ := @pe_obj w.params
  have hC := X _ _ hl
  obtain ⟨hp, g, d, tk, os⟩ := s₁
  have hcB : (Value.ref 51 :: [.ref 31, .type "Exception", .type "BaseException", .type "object"]).contains (.type "BaseException") = true := by decide +kernel
  repeat (first | with_reducible refine wpAny_loadPart_at he ?_ | with_reducible refine wpAny_loadPart_at hC ?_ | (with_reducible refine wpAny_isSubtype_exc hC ?_; rw [hcB]) | wp_step)
  exact wpAny_raiseNew_none hh hE
end
local macro_rules | `(tactic| walk_at "exec Raise some none") => `(tactic| refine Raise_D rfl ?_)
local macro_rules | `(tactic| walk_at "RaisD") => `(tactic| (k_dflt (refine' RaisD.mk ?F ?N ?X ?m ?_; (case F => k_asm); (case N => k_asm); (case X => k_asm); (case m => k_mem); k_whole)))
local macro_rules | `(tactic| walk_at "leaving ref") => `(tactic| (k_here; k_dflt (refine' leave_raiseD ?K ?F ?N ?ne ?_; (case F => k_asm); (case K => assumption); (case N => k_asm); (case ne => with_reducible assumption); k_whole); intro h6 R6 U6; (try dsimp only at R6 U6 ⊢)))

def BallX (ext : List (Addr × Obj)) (dx : Addr) (d : Dat) : Prop := ∃ b hs tk, (dx, W.dictOf [⟨hs, .str "ball" tk, b⟩] 1) ∈ ext ∧ DatIn ext b d
theorem Ball.x {w : World} {ext : List (Addr × Obj)} {e t dx : Addr} {d : Dat} (h : Ball w ext e t dx d) : BallX ext dx d := by
  obtain ⟨b, hs, tk, _, h1, h2⟩ := h.ex
  exact ⟨b, hs, tk, h1, h2⟩
/-- what a caller owes when the call raises one of the own errors -/
def ErrOut (w : World) (base h₀ : Heap) (L : Addr) (m : Str → Option Value) (outer : List Env) (x : Addr) (pre : List (Addr × Obj)) (texts : List Str) (fs : List (Int × Int)) (FF : List Str → List (Int × Int) → Dat → Prop) (E : Value → Shared → Prop) (s : Shared) : Prop :=
  ∀ e dx f ext h' tk' tab' texts' fs' g, SymR w tab' x texts' fs' → texts <+: texts' → fs <+: fs' → texts'.length ≤ texts.length + 2 → fs'.length ≤ fs.length + 1 → FF texts' fs' f → BallX ext dx (ballD f) → Apart (ext ++ pre) tab' →
    Fr h₀ L g m → RaisedD base g outer e (some dx) (ext ++ (pre ++ tab')) h' → g.UpToSlots h' → E (.ref e) { s with heap := h', toks := tk' }
theorem Apart.drop1 {p : Addr × Obj} {pre tab : List (Addr × Obj)} (h : Apart (p :: pre) tab) : Apart pre tab := ⟨fun q hq => h.at_ q (.tail _ hq)⟩
section
variable {w : World} {mean : ExcName → Option Value} {mg mb' : Str → Option Value} {dp un : Nat} {gd : Option (List Code)} {cn : Str} {cs : Scope} {a : Addr} {ccd : Value} {cl : List (Str × Addr)} {outer : List Env} {A₀ : Around} {base h₀ : Heap} {L : Addr} {m : Str → Option Value} {s : Shared} {Q E : Value → Shared → Prop}
variable {tab news pre : List (Addr × Obj)} {x : Addr} {texts : List Str} {fs : List (Int × Int)}

theorem chkS {v mb : Int} {tv tm : Tok}
  (B : Below A₀ base outer h₀) (F : Fr h₀ L s.heap m) (X : (hd.heap_1 w.params).In h₀) (N : News h₀ L s.heap (pre ++ tab)) (hA : Apart pre tab) (S : SymR w tab x texts fs)
  (Tp : Top hd.view_1 (looseW hd.view_1 []) mean mg mb' h₀) (hk : cs.kind = .function) (hlen : texts.length ≤ 60000) (hlenF : fs.length ≤ 60000) (hd' : dp + 12 < recursionLimit) (hu : un + 120 < cLine)
  (hret : ∀ h' tk', (Builtin.Int.intBits v : Int) ≤ mb → Fr h₀ L h' m → News h₀ L h' (pre ++ tab) → Q (.int v tv) { s with heap := h', toks := tk' })
  (hres : mb < (Builtin.Int.intBits v : Int) → ErrOut w base h₀ L m (envX cn cs L a ccd cl :: outer) x pre texts fs ResF E s) :
  wpAny (model PySem.Challenge.pw_rh0073_01 w) (ktrTop dp un gd cn cs L a ccd cl outer) (call (.ref 207) [.ref x, .int v tv, .int mb tm]) Q E s := by
  refine wpAny_call ?_
  k_dflt cell_enter
  k_steps
  · exact hres (by assumption) _ _ _ _ _ _ _ _ _ _ (by assumption) (by assumption) (by assumption) (by assumption) (by assumption) (by assumption) (Ball.x (by assumption)) (Apart.drop1 (by assumption)) (by assumption) (by assumption) (by assumption)
  · exact hret _ _ (by omega) (by assumption) (by assumption)

theorem powS {b e mb : Int} {tb te tm : Tok}
  (B : Below A₀ base outer h₀) (F : Fr h₀ L s.heap m) (X : (hd.heap_1 w.params).In h₀) (N : News h₀ L s.heap (pre ++ tab)) (hA : Apart pre tab) (S : SymR w tab x texts fs)
  (Tp : Top hd.view_1 (looseW hd.view_1 []) mean mg mb' h₀) (hk : cs.kind = .function) (hlen : texts.length ≤ 60000) (hlenF : fs.length ≤ 60000) (hd' : dp + 14 < recursionLimit) (hu : un + 140 < cLine)
  (hmb : mb ≤ 10000) (hbb : Builtin.Int.intBits b ≤ 20000)
  (hret : ∀ v tv h' tk', powO b e mb = .int v → Fr h₀ L h' m → News h₀ L h' (pre ++ tab) → Q (.int v tv) { s with heap := h', toks := tk' })
  (hres : powO b e mb = .res → ErrOut w base h₀ L m (envX cn cs L a ccd cl :: outer) x pre texts fs ResF E s)
  (htyp : powO b e mb = .typ → ErrOut w base h₀ L m (envX cn cs L a ccd cl :: outer) x pre texts fs (fun t f d => TypF t f b d) E s) :
  wpAny (model PySem.Challenge.pw_rh0073_01 w) (ktrTop dp un gd cn cs L a ccd cl outer) (call (.ref 235) [.ref x, .int b tb, .int e te, .int mb tm]) Q E s := by
  refine wpAny_call ?_
  k_dflt cell_enter
  k_steps
  all_goals first
    | exact hret _ _ _ _ (by walk_at "pow ends") (by assumption) (by assumption)
    | exact hres (by walk_at "pow ends") _ _ _ _ _ _ _ _ _ _ (by assumption) (by assumption) (by assumption) (by assumption) (by assumption) (by assumption) (Ball.x (by assumption)) (Apart.drop1 (by assumption)) (by assumption) (by assumption) (by assumption)
    | exact htyp (by walk_at "pow ends") _ _ _ _ _ _ _ _ _ _ (by assumption) (by assumption) (by assumption) (by assumption) (by assumption) (by assumption) (Ball.x (by assumption)) (Apart.drop1 (by assumption)) (by assumption) (by assumption) (by assumption)
    | trace_state
end
end Mine
end

section
open PySem PySem.W PySem.Spec PySem.Calls PyProof.Rows PyProof.V
set_option maxRecDepth 100000
set_option maxHeartbeats 8000000
namespace Mine

local macro_rules | `(tactic| k_all) => `(tactic| first | with_reducible assumption | exact allLt_ne (by with_reducible assumption) | exact ne_app (by with_reducible assumption) (by first | with_reducible assumption | exact Apart.addr (by with_reducible assumption) (by repeat (first | exact List.Mem.head _ | apply List.Mem.tail))))
local macro_rules | `(tactic| ktr_units) => `(tactic| (have hcL9 := cLine_is; (try simp only [units_in1, units_deeper, units_under_make, Around.mark_units, units_caller] at *); (try dsimp only [ktrTop] at *); omega))
local macro_rules | `(tactic| k_room) => `(tactic| ktr_room)
local macro_rules | `(tactic| k_units) => `(tactic| ktr_units)
theorem lt_tab0 {l : Addr} {pre tab : List (Addr × Obj)} (h : ∀ p ∈ pre ++ tab, p.1 < l) : ∀ q ∈ tab, q.1 ≠ l := fun q hq => Nat.ne_of_lt (h q (List.mem_append_right _ hq))
theorem lt_tab1 {l : Addr} {c : Prop} {pre tab : List (Addr × Obj)} (h : c ∧ AllLt l (pre ++ tab)) : ∀ q ∈ tab, q.1 ≠ l := fun q hq => Nat.ne_of_lt (of_allLt h.2 q (List.mem_append_right _ hq))
theorem lt_tab2 {l : Addr} {c d : Prop} {pre tab : List (Addr × Obj)} (h : c ∧ d ∧ AllLt l (pre ++ tab)) : ∀ q ∈ tab, q.1 ≠ l := fun q hq => Nat.ne_of_lt (of_allLt h.2.2 q (List.mem_append_right _ hq))
local macro_rules | `(tactic| ktr_unf) => `(tactic| first | with_reducible assumption | exact Apart.addr (by with_reducible assumption) (by repeat (first | exact List.Mem.head _ | apply List.Mem.tail)) | exact lt_tab0 (by with_reducible assumption) | exact lt_tab1 (by with_reducible assumption) | exact lt_tab2 (by with_reducible assumption))
local macro_rules | `(tactic| ktr_rel) => `(tactic| first | exact TailF.app (by assumption) | exact TailF.nil | (refine' TailF.cons ?a ?b; (case a => ktr_unf); (case b => ktr_rel)))
local macro_rules | `(tactic| walk_at "getMethod ref") => `(tactic| (k_here; k_dflt (refine' meth_sym ?F ?X ?N ?G ?S ?hg ?hf ?ht ?hl ?_; (case F => k_asm); (case X => k_asm); (case N => k_asm); (case S => with_reducible assumption); (case G => ktr_rel); (case hg => k_is); (case hf => k_is); (case ht => k_is); (case hl => (intros; k_get)); k_whole)))
local macro_rules | `(tactic| walk_at "call ref") => `(tactic| (k_here; (with_reducible show wpAny _ _ (call (Value.ref 88) _) _ _ _); k_dflt (refine' atomS ?B ?F ?X ?N ?G ?S ?T ?hk ?hlen ?hd ?hu ?_; (case B => k_asm); (case F => k_asm); (case X => k_asm); (case N => k_asm); (case S => with_reducible assumption); (case G => ktr_rel); (case T => k_asm); (case hk => first | rfl | assumption); (case hlen => omega); (case hd => ktr_room); (case hu => ktr_units); k_whole); intro k9 t9 h9 tk9 tab9 tx9 S9 p9 l9 q9 F9 N9 A9; (try simp only [List.cons_append, List.nil_append] at N9); (try k_sweep); (try dsimp only); (try k_fold)))
local macro_rules | `(tactic| walk_at "call ref") => `(tactic| (k_here; (with_reducible show wpAny _ _ (call (Value.ref 109) _) _ _ _); k_dflt (refine' funcS ?B ?F ?X ?N ?G ?S ?T ?hk ?hlen ?hlenF ?hd ?hu ?_; (case B => k_asm); (case F => k_asm); (case X => k_asm); (case N => k_asm); (case S => with_reducible assumption); (case G => ktr_rel); (case T => k_asm); (case hk => first | rfl | assumption); (case hlen => omega); (case hlenF => omega); (case hd => ktr_room); (case hu => ktr_units); k_whole); intro k9 ka9 t9 h9 tk9 tab9 tx9 fs9 S9 p9 pf9 l9 lf9 q9 qf9 F9 N9 A9; (try simp only [List.cons_append, List.nil_append] at N9); (try k_sweep); (try dsimp only); (try k_fold)))


section
variable {w : World} {mean : ExcName → Option Value} {mg mb' : Str → Option Value} {dp un : Nat} {gd : Option (List Code)} {cn : Str} {cs : Scope} {a : Addr} {ccd : Value} {cl : List (Str × Addr)} {outer : List Env} {A₀ : Around} {base h₀ : Heap} {L : Addr} {m : Str → Option Value} {s : Shared} {Q E : Value → Shared → Prop}
variable {tab news pre : List (Addr × Obj)} {x : Addr} {texts : List Str} {fs : List (Int × Int)}
theorem powS2 {b e mb : Int} {tb te tm : Tok}
  (B : Below A₀ base outer h₀) (F : Fr h₀ L s.heap m) (X : (hd.heap_1 w.params).In h₀) (N : News h₀ L s.heap news) (G : TailF tab news pre) (S : SymR w tab x texts fs)
  (Tp : Top hd.view_1 (looseW hd.view_1 []) mean mg mb' h₀) (hk : cs.kind = .function) (hlen : texts.length ≤ 60000) (hlenF : fs.length ≤ 60000) (hd' : dp + 14 < recursionLimit) (hu : un + 140 < cLine)
  (hmb : mb ≤ 10000) (hbb : Builtin.Int.intBits b ≤ 20000)
  (hall : (∀ v tv h' tk', powO b e mb = .int v → Fr h₀ L h' m → News h₀ L h' news → Q (.int v tv) { s with heap := h', toks := tk' }) ∧
    (powO b e mb = .res → ErrOut w base h₀ L m (envX cn cs L a ccd cl :: outer) x pre texts fs ResF E s) ∧ (powO b e mb = .typ → ErrOut w base h₀ L m (envX cn cs L a ccd cl :: outer) x pre texts fs (fun t f d => TypF t f b d) E s)) :
  wpAny (model PySem.Challenge.pw_rh0073_01 w) (ktrTop dp un gd cn cs L a ccd cl outer) (call (.ref 235) [.ref x, .int b tb, .int e te, .int mb tm]) Q E s := by
  obtain ⟨rfl, hA⟩ := G.split
  exact powS B F X N hA S Tp hk hlen hlenF hd' hu hmb hbb hall.1 hall.2.1 hall.2.2
theorem chkS2 {v mb : Int} {tv tm : Tok}
  (B : Below A₀ base outer h₀) (F : Fr h₀ L s.heap m) (X : (hd.heap_1 w.params).In h₀) (N : News h₀ L s.heap news) (G : TailF tab news pre) (S : SymR w tab x texts fs)
  (Tp : Top hd.view_1 (looseW hd.view_1 []) mean mg mb' h₀) (hk : cs.kind = .function) (hlen : texts.length ≤ 60000) (hlenF : fs.length ≤ 60000) (hd' : dp + 12 < recursionLimit) (hu : un + 120 < cLine)
  (hall : (∀ h' tk', (Builtin.Int.intBits v : Int) ≤ mb → Fr h₀ L h' m → News h₀ L h' news → Q (.int v tv) { s with heap := h', toks := tk' }) ∧ (mb < (Builtin.Int.intBits v : Int) → ErrOut w base h₀ L m (envX cn cs L a ccd cl :: outer) x pre texts fs ResF E s)) :
  wpAny (model PySem.Challenge.pw_rh0073_01 w) (ktrTop dp un gd cn cs L a ccd cl outer) (call (.ref 207) [.ref x, .int v tv, .int mb tm]) Q E s := by
  obtain ⟨rfl, hA⟩ := G.split
  exact chkS B F X N hA S Tp hk hlen hlenF hd' hu hall.1 hall.2
end

local macro_rules | `(tactic| walk_at "call ref") => `(tactic| (k_here; (with_reducible show wpAny _ _ (call (Value.ref 235) _) _ _ _); k_dflt (refine' powS2 ?B ?F ?X ?N ?G ?S ?T ?hk ?hlen ?hlenF ?hd ?hu ?hmb ?hbb ?_; (case B => k_asm); (case F => k_asm); (case X => k_asm); (case S => with_reducible assumption); (case N => k_asm); (case G => ktr_rel); (case T => k_asm); (case hk => first | rfl | assumption); (case hlen => omega); (case hlenF => omega); (case hd => ktr_room); (case hu => ktr_units); (case hmb => omega); (case hbb => first | assumption | omega); k_whole); k_dflt (refine ⟨fun v9 tv9 h9 tk9 o9 F9 N9 => ?_, fun o9 e9 dx9 f9 ext9 h9 tk9 tab9 tx9 fs9 g9 S9 p9 pf9 l9 lf9 r9 b9 A9 F9 R9 U9 => ?_, fun o9 e9 dx9 f9 ext9 h9 tk9 tab9 tx9 fs9 g9 S9 p9 pf9 l9 lf9 r9 b9 A9 F9 R9 U9 => ?_⟩) <;> ((try k_sweep); (try dsimp only); (try k_fold))))
local macro_rules | `(tactic| walk_at "call ref") => `(tactic| (k_here; (with_reducible show wpAny _ _ (call (Value.ref 207) _) _ _ _); k_dflt (refine' chkS2 ?B ?F ?X ?N ?G ?S ?T ?hk ?hlen ?hlenF ?hd ?hu ?_; (case B => k_asm); (case F => k_asm); (case X => k_asm); (case S => with_reducible assumption); (case N => k_asm); (case G => ktr_rel); (case T => k_asm); (case hk => first | rfl | assumption); (case hlen => omega); (case hlenF => omega); (case hd => ktr_room); (case hu => ktr_units); k_whole); k_dflt (refine ⟨fun h9 tk9 o9 F9 N9 => ?_, fun o9 e9 dx9 f9 ext9 h9 tk9 tab9 tx9 fs9 g9 S9 p9 pf9 l9 lf9 r9 b9 A9 F9 R9 U9 => ?_⟩) <;> ((try k_sweep); (try dsimp only); (try k_fold))))
local macro_rules | `(tactic| walk_at "leaving ref") => `(tactic| (k_here; k_dflt (refine' leave_onD ?K ?F ?R ?U ?_; (case R => assumption); (case U => assumption); (case F => assumption); (case K => assumption); k_whole); intro h6 R6 U6; (try dsimp only at R6 U6 ⊢)))
section
variable {w : World} {mean : ExcName → Option Value} {mg mb' : Str → Option Value} {dp un : Nat} {gd : Option (List Code)} {cn : Str} {cs : Scope} {a : Addr} {ccd : Value} {cl : List (Str × Addr)} {outer : List Env} {A₀ : Around} {base h₀ : Heap} {L : Addr} {m : Str → Option Value} {s : Shared} {Q E : Value → Shared → Prop}
variable {tab news pre : List (Addr × Obj)} {x : Addr} {texts : List Str} {fs : List (Int × Int)}

theorem ErrOut.wide {p : Addr × Obj} {FF : List Str → List (Int × Int) → Dat → Prop} (h : ErrOut w base h₀ L m outer x pre texts fs FF E s) : ErrOut w base h₀ L m outer x (p :: pre) texts fs FF E s := by
  intro e dx f ext h' tk' tab' texts' fs' g S p1 p2 l1 l2 hf hb hA F R U
  refine h e dx f (ext ++ [p]) h' tk' tab' texts' fs' g S p1 p2 l1 l2 hf ?_ ?_ F ?_ U
  · obtain ⟨b, hs, tk, h1, h2⟩ := hb
    exact ⟨b, hs, tk, List.mem_append_left _ h1, h2.mono fun q hq => List.mem_append_left _ hq⟩
  · rw [List.append_assoc]; exact hA
  · rw [List.append_assoc]; exact R
theorem tailN {p : Addr × Obj} {h : Heap} {r : List (Addr × Obj)} (N : News h₀ L h (p :: r)) : News h₀ L h r := fun q hq => N q (.tail _ hq)

theorem abS {word : Str} {b e mb : Int} {tw tb te tm : Tok} (hw : word = "^" ∨ word = "**")
  (B : Below A₀ base outer h₀) (F : Fr h₀ L s.heap m) (X : (hd.heap_1 w.params).In h₀) (N : News h₀ L s.heap (pre ++ tab)) (hA : Apart pre tab) (S : SymR w tab x texts fs)
  (Tp : Top hd.view_1 (looseW hd.view_1 []) mean mg mb' h₀) (hk : cs.kind = .function) (hlen : texts.length ≤ 60000) (hlenF : fs.length ≤ 60000) (hd' : dp + 16 < recursionLimit) (hu : un + 160 < cLine)
  (hmb : mb ≤ 10000) (hbb : Builtin.Int.intBits b ≤ 20000)
  (hret : ∀ v tv h' tk', powO b e mb = .int v → Fr h₀ L h' m → News h₀ L h' (pre ++ tab) → Q (.int v tv) { s with heap := h', toks := tk' })
  (hres : powO b e mb = .res → ErrOut w base h₀ L m (envX cn cs L a ccd cl :: outer) x pre texts fs ResF E s)
  (htyp : powO b e mb = .typ → ErrOut w base h₀ L m (envX cn cs L a ccd cl :: outer) x pre texts fs (fun t f d => TypF t f b d) E s) :
  wpAny (model PySem.Challenge.pw_rh0073_01 w) (ktrTop dp un gd cn cs L a ccd cl outer) (call (.ref 284) [.ref x, .str word tw, .int b tb, .int e te, .int mb tm]) Q E s := by
  rcases hw with rfl | rfl
  all_goals
    refine wpAny_call ?_
    k_dflt cell_enter
    k_steps
  all_goals first
    | exact hret _ _ _ _ (by assumption) (by assumption) (tailN (by assumption))
    | exact (hres (by assumption)).wide _ _ _ _ _ _ _ _ _ _ (by assumption) (by assumption) (by assumption) (by assumption) (by assumption) (by assumption) (by assumption) (by assumption) (by assumption) (by assumption) (by assumption)
    | exact (htyp (by assumption)).wide _ _ _ _ _ _ _ _ _ _ (by assumption) (by assumption) (by assumption) (by assumption) (by assumption) (by assumption) (by assumption) (by assumption) (by assumption) (by assumption) (by assumption)
    | trace_state
end
end Mine
end

section
open PySem PySem.W PySem.Spec PySem.Calls PyProof.Rows PyProof.V
set_option maxRecDepth 100000
set_option maxHeartbeats 8000000
namespace Mine

local macro_rules | `(tactic| k_all) => `(tactic| first | with_reducible assumption | exact allLt_ne (by with_reducible assumption) | exact ne_app (by with_reducible assumption) (by first | with_reducible assumption | exact Apart.addr (by with_reducible assumption) (by repeat (first | exact List.Mem.head _ | apply List.Mem.tail))))
local macro_rules | `(tactic| ktr_units) => `(tactic| (have hcL9 := cLine_is; (try simp only [units_in1, units_deeper, units_under_make, Around.mark_units, units_caller] at *); (try dsimp only [ktrTop] at *); omega))
local macro_rules | `(tactic| k_room) => `(tactic| ktr_room)
local macro_rules | `(tactic| k_units) => `(tactic| ktr_units)
local macro_rules | `(tactic| ktr_unf) => `(tactic| first | with_reducible assumption | exact Apart.addr (by with_reducible assumption) (by repeat (first | exact List.Mem.head _ | apply List.Mem.tail)) | exact lt_tab0 (by with_reducible assumption) | exact lt_tab1 (by with_reducible assumption) | exact lt_tab2 (by with_reducible assumption))
local macro_rules | `(tactic| ktr_rel) => `(tactic| first | exact TailF.app (by assumption) | exact TailF.nil | (refine' TailF.cons ?a ?b; (case a => ktr_unf); (case b => ktr_rel)))
local macro_rules | `(tactic| walk_at "getMethod ref") => `(tactic| (k_here; k_dflt (refine' meth_sym ?F ?X ?N ?G ?S ?hg ?hf ?ht ?hl ?_; (case F => k_asm); (case X => k_asm); (case N => k_asm); (case S => with_reducible assumption); (case G => ktr_rel); (case hg => k_is); (case hf => k_is); (case ht => k_is); (case hl => (intros; k_get)); k_whole)))
local macro_rules | `(tactic| walk_at "call ref") => `(tactic| (k_here; (with_reducible show wpAny _ _ (call (Value.ref 88) _) _ _ _); k_dflt (refine' atomS ?B ?F ?X ?N ?G ?S ?T ?hk ?hlen ?hd ?hu ?_; (case B => k_asm); (case F => k_asm); (case X => k_asm); (case N => k_asm); (case S => with_reducible assumption); (case G => ktr_rel); (case T => k_asm); (case hk => first | rfl | assumption); (case hlen => omega); (case hd => ktr_room); (case hu => ktr_units); k_whole); intro k9 t9 h9 tk9 tab9 tx9 S9 p9 l9 q9 F9 N9 A9; (try simp only [List.cons_append, List.nil_append] at N9); (try k_sweep); (try dsimp only); (try k_fold)))
local macro_rules | `(tactic| walk_at "call ref") => `(tactic| (k_here; (with_reducible show wpAny _ _ (call (Value.ref 109) _) _ _ _); k_dflt (refine' funcS ?B ?F ?X ?N ?G ?S ?T ?hk ?hlen ?hlenF ?hd ?hu ?_; (case B => k_asm); (case F => k_asm); (case X => k_asm); (case N => k_asm); (case S => with_reducible assumption); (case G => ktr_rel); (case T => k_asm); (case hk => first | rfl | assumption); (case hlen => omega); (case hlenF => omega); (case hd => ktr_room); (case hu => ktr_units); k_whole); intro k9 ka9 t9 h9 tk9 tab9 tx9 fs9 S9 p9 pf9 l9 lf9 q9 qf9 F9 N9 A9; (try simp only [List.cons_append, List.nil_append] at N9); (try k_sweep); (try dsimp only); (try k_fold)))


section
variable {w : World} {mean : ExcName → Option Value} {mg mb' : Str → Option Value} {dp un : Nat} {gd : Option (List Code)} {cn : Str} {cs : Scope} {a : Addr} {ccd : Value} {cl : List (Str × Addr)} {outer : List Env} {A₀ : Around} {base h₀ : Heap} {L : Addr} {m : Str → Option Value} {s : Shared} {Q E : Value → Shared → Prop}
variable {tab news pre : List (Addr × Obj)} {x : Addr} {texts : List Str} {fs : List (Int × Int)}
theorem abS2 {word : Str} {b e mb : Int} {tw tb te tm : Tok} (hw : word = "^" ∨ word = "**")
  (B : Below A₀ base outer h₀) (F : Fr h₀ L s.heap m) (X : (hd.heap_1 w.params).In h₀) (N : News h₀ L s.heap news) (G : TailF tab news pre) (S : SymR w tab x texts fs)
  (Tp : Top hd.view_1 (looseW hd.view_1 []) mean mg mb' h₀) (hk : cs.kind = .function) (hlen : texts.length ≤ 60000) (hlenF : fs.length ≤ 60000) (hd' : dp + 16 < recursionLimit) (hu : un + 160 < cLine)
  (hmb : mb ≤ 10000) (hbb : Builtin.Int.intBits b ≤ 20000)
  (hall : (∀ v tv h' tk', powO b e mb = .int v → Fr h₀ L h' m → News h₀ L h' news → Q (.int v tv) { s with heap := h', toks := tk' }) ∧
    (powO b e mb = .res → ErrOut w base h₀ L m (envX cn cs L a ccd cl :: outer) x pre texts fs ResF E s) ∧ (powO b e mb = .typ → ErrOut w base h₀ L m (envX cn cs L a ccd cl :: outer) x pre texts fs (fun t f d => TypF t f b d) E s)) :
  wpAny (model PySem.Challenge.pw_rh0073_01 w) (ktrTop dp un gd cn cs L a ccd cl outer) (call (.ref 284) [.ref x, .str word tw, .int b tb, .int e te, .int mb tm]) Q E s := by
  obtain ⟨rfl, hA⟩ := G.split
  exact abS hw B F X N hA S Tp hk hlen hlenF hd' hu hmb hbb hall.1 hall.2.1 hall.2.2
end
local macro_rules | `(tactic| walk_at "call ref") => `(tactic| (k_here; (with_reducible show wpAny _ _ (call (Value.ref 207) _) _ _ _); k_dflt (refine' chkS2 ?B ?F ?X ?N ?G ?S ?T ?hk ?hlen ?hlenF ?hd ?hu ?_; (case B => k_asm); (case F => k_asm); (case X => k_asm); (case S => with_reducible assumption); (case N => k_asm); (case G => ktr_rel); (case T => k_asm); (case hk => first | rfl | assumption); (case hlen => omega); (case hlenF => omega); (case hd => ktr_room); (case hu => ktr_units); k_whole); k_dflt (refine ⟨fun h9 tk9 o9 F9 N9 => ?_, fun o9 e9 dx9 f9 ext9 h9 tk9 tab9 tx9 fs9 g9 S9 p9 pf9 l9 lf9 r9 b9 A9 F9 R9 U9 => ?_⟩) <;> ((try k_sweep); (try dsimp only); (try k_fold))))
local macro_rules | `(tactic| walk_at "call ref") => `(tactic| (k_here; (with_reducible show wpAny _ _ (call (Value.ref 284) _) _ _ _); k_dflt (refine' abS2 ?hw ?B ?F ?X ?N ?G ?S ?T ?hk ?hlen ?hlenF ?hd ?hu ?hmb ?hbb ?_; (case hw => assumption); (case B => k_asm); (case F => k_asm); (case X => k_asm); (case S => with_reducible assumption); (case N => k_asm); (case G => ktr_rel); (case T => k_asm); (case hk => first | rfl | assumption); (case hlen => omega); (case hlenF => omega); (case hd => ktr_room); (case hu => ktr_units); (case hmb => omega); (case hbb => first | assumption | omega); k_whole); k_dflt (refine ⟨fun v9 tv9 h9 tk9 o9 F9 N9 => ?_, fun o9 e9 dx9 f9 ext9 h9 tk9 tab9 tx9 fs9 g9 S9 p9 pf9 l9 lf9 r9 b9 A9 F9 R9 U9 => ?_, fun o9 e9 dx9 f9 ext9 h9 tk9 tab9 tx9 fs9 g9 S9 p9 pf9 l9 lf9 r9 b9 A9 F9 R9 U9 => ?_⟩) <;> ((try k_sweep); (try dsimp only); (try k_fold))))
local macro_rules | `(tactic| walk_at "leaving ref") => `(tactic| (k_here; k_dflt (refine' leave_onD ?K ?F ?R ?U ?_; (case R => assumption); (case U => assumption); (case F => assumption); (case K => assumption); k_whole); intro h6 R6 U6; (try dsimp only at R6 U6 ⊢)))

local macro_rules | `(tactic| walk_at "call ref") => `(tactic| (k_here; (with_reducible show wpAny _ _ (call (Value.ref 116) _) _ _ _); k_dflt (refine' nameS ?B ?F ?X ?N ?G ?S ?T ?hk ?hlen ?hat ?hd ?hu ?_; (case B => k_asm); (case F => k_asm); (case X => k_asm); (case S => with_reducible assumption); (case N => k_asm); (case G => ktr_rel); (case T => k_asm); (case hk => first | rfl | assumption); (case hlen => omega); (case hat => assumption); (case hd => ktr_room); (case hu => ktr_units); k_whole); intro t9 h9 tk9 F9 N9; (try k_sweep); (try dsimp only); (try k_fold)))
local macro_rules | `(tactic| walk_at "call ref") => `(tactic| (k_here; (with_reducible show wpAny _ _ (call (Value.ref 123) _) _ _ _); k_dflt (refine' arityS ?B ?F ?X ?N ?G ?S ?T ?hk ?hlen ?hat ?hd ?hu ?_; (case B => k_asm); (case F => k_asm); (case X => k_asm); (case S => with_reducible assumption); (case N => k_asm); (case G => ktr_rel); (case T => k_asm); (case hk => first | rfl | assumption); (case hlen => omega); (case hat => assumption); (case hd => ktr_room); (case hu => ktr_units); k_whole); intro t9 h9 tk9 F9 N9; (try k_sweep); (try dsimp only); (try k_fold)))
local macro_rules | `(tactic| walk_at "call ref") => `(tactic| (k_here; (with_reducible show wpAny _ _ (call (Value.ref 95) _) _ _ _); k_dflt (refine' textS ?B ?F ?X ?N ?G ?S ?T ?hk ?hlen ?hat ?hd ?hu ?_; (case B => k_asm); (case F => k_asm); (case X => k_asm); (case S => with_reducible assumption); (case N => k_asm); (case G => ktr_rel); (case T => k_asm); (case hk => first | rfl | assumption); (case hlen => omega); (case hat => assumption); (case hd => ktr_room); (case hu => ktr_units); k_whole); intro t9 h9 tk9 F9 N9; (try k_sweep); (try dsimp only); (try k_fold)))
section
variable {w : World} {mean : ExcName → Option Value} {mg mb' : Str → Option Value} {dp un : Nat} {gd : Option (List Code)} {cn : Str} {cs : Scope} {a : Addr} {ccd : Value} {cl : List (Str × Addr)} {outer : List Env} {A₀ : Around} {base h₀ : Heap} {L : Addr} {m : Str → Option Value} {s : Shared} {Q E : Value → Shared → Prop}
variable {tab news pre : List (Addr × Obj)} {x : Addr} {texts : List Str} {fs : List (Int × Int)}

def afO (b e mb : Int) : Out := match powO b e mb with
  | .int v => if (Builtin.Int.intBits v : Int) ≤ mb then .int v else .res
  | o => o

theorem afO_int {b e mb v : Int} (h : powO b e mb = .int v) (h2 : (Builtin.Int.intBits v : Int) ≤ mb) : afO b e mb = .int v := by unfold afO; rw [h]; exact if_pos h2
theorem afO_big {b e mb v : Int} (h : powO b e mb = .int v) (h2 : mb < (Builtin.Int.intBits v : Int)) : afO b e mb = .res := by unfold afO; rw [h]; exact if_neg (by omega)
theorem afO_res {b e mb : Int} (h : powO b e mb = .res) : afO b e mb = .res := by unfold afO; rw [h]
theorem afO_typ {b e mb : Int} (h : powO b e mb = .typ) : afO b e mb = .typ := by unfold afO; rw [h]
theorem afS {word : Str} {k ka c : Nat} {V : Addr} {b e e' mb mo : Int} {tk tm t1 t2 t3 t4 : Tok} (hw : word = "^" ∨ word = "**")
  (B : Below A₀ base outer h₀) (F : Fr h₀ L s.heap m) (X : (hd.heap_1 w.params).In h₀) (N : News h₀ L s.heap ((V, W.listOf #[.int mo t1, .int e' t2, .int b t3, .int e t4] c) :: (pre ++ tab))) (hV : ∀ p ∈ pre ++ tab, p.1 ≠ V) (hA : Apart pre tab) (S : SymR w tab x texts fs)
  (Tp : Top hd.view_1 (looseW hd.view_1 []) mean mg mb' h₀) (hk : cs.kind = .function) (hlen : texts.length ≤ 60000) (hlenF : fs.length ≤ 60000) (hf : fs[k]? = some ((ka : Int), 2)) (hx : texts[ka]? = some word) (hd' : dp + 18 < recursionLimit) (hu : un + 180 < cLine)
  (hmb : mb ≤ 10000) (hbb : Builtin.Int.intBits b ≤ 20000)
  (hret : ∀ v tv c' h' tk', afO b e mb = .int v → Fr h₀ L h' m → News h₀ L h' ((V, W.listOf #[.int mo t1, .int e' t2, .int v tv] c') :: (pre ++ tab)) → Q .none { s with heap := h', toks := tk' })
  (hres : afO b e mb = .res → ∀ c', ErrOut w base h₀ L m (envX cn cs L a ccd cl :: outer) x ((V, W.listOf #[.int mo t1, .int e' t2] c') :: pre) texts fs ResF E s)
  (htyp : afO b e mb = .typ → ∀ c', ErrOut w base h₀ L m (envX cn cs L a ccd cl :: outer) x ((V, W.listOf #[.int mo t1, .int e' t2] c') :: pre) texts fs (fun t f d => TypF t f b d) E s) :
  wpAny (model PySem.Challenge.pw_rh0073_01 w) (ktrTop dp un gd cn cs L a ccd cl outer) (call (.ref 291) [.ref x, .int (k : Int) tk, .ref V, .int mb tm]) Q E s := by
  have hVt : ∀ q ∈ tab, q.1 ≠ V := fun q hq => hV q (List.mem_append_right _ hq)
  refine wpAny_call ?_
  k_dflt cell_enter
  k_steps
  all_goals first
    | exact hret _ _ _ _ _ (afO_int (by assumption) (by assumption)) (by assumption) (by assumption)
    | exact hres (afO_big (by assumption) (by assumption)) _ _ _ _ _ _ _ _ _ _ _ (by assumption) (by assumption) (by assumption) (by assumption) (by assumption) (by assumption) (by assumption) (by assumption) (by assumption) (by assumption) (by assumption)
    | exact hres (afO_res (by assumption)) _ _ _ _ _ _ _ _ _ _ _ (by assumption) (by assumption) (by assumption) (by assumption) (by assumption) (by assumption) (by assumption) (by assumption) (by assumption) (by assumption) (by assumption)
    | exact htyp (afO_typ (by assumption)) _ _ _ _ _ _ _ _ _ _ _ (by assumption) (by assumption) (by assumption) (by assumption) (by assumption) (by assumption) (by assumption) (by assumption) (by assumption) (by assumption) (by assumption)
    | trace_state
end
end Mine
end

section
open PySem PySem.W PySem.Spec PySem.Calls PyProof.Rows PyProof.V
set_option maxRecDepth 100000
set_option maxHeartbeats 8000000
namespace Mine

local macro_rules | `(tactic| k_all) => `(tactic| first | with_reducible assumption | exact allLt_ne (by with_reducible assumption) | exact ne_app (by with_reducible assumption) (by first | with_reducible assumption | exact Apart.addr (by with_reducible assumption) (by repeat (first | exact List.Mem.head _ | apply List.Mem.tail))))
local macro_rules | `(tactic| ktr_units) => `(tactic| (have hcL9 := cLine_is; (try simp only [units_in1, units_deeper, units_under_make, Around.mark_units, units_caller] at *); (try dsimp only [ktrTop] at *); omega))
local macro_rules | `(tactic| k_room) => `(tactic| ktr_room)
local macro_rules | `(tactic| k_units) => `(tactic| ktr_units)

section
variable {w : World} {A : Around} {E : Value → Shared → Prop} {s : Shared} {x : Addr} {ox : Obj} {expr : Bool} {Q : Value → Shared → Prop}
theorem pe_find_ga {P : Params} : findIn (hd.heap_1 P) (.ref 51) "__getattribute__" = some (some (.builtin "BaseException.__getattribute__")) := by k_is
theorem pe_find_gattr {P : Params} : findIn (hd.heap_1 P) (.ref 51) "__getattr__" = some none := by k_is
theorem ball_found {P : Params} {hs : Int} {tk : Tok} {b : Value} : findObj (hd.heap_1 P) 51 (some (W.dictOf [⟨hs, .str "ball" tk, b⟩] 1)) "ball" = some (.value b) := by
  obtain ⟨cd, hc, hdict, hm, -⟩ := @pe_cls P
  unfold findObj
  rw [hc, Option.bind_some, pe_find_ball, Option.bind_some]
  show ((PySem.W.ownOf cd (some (W.dictOf [⟨hs, .str "ball" tk, b⟩] 1)) "ball").bind _) = _
  have e : PySem.W.ownOf cd (some (W.dictOf [⟨hs, .str "ball" tk, b⟩] 1)) "ball" = some (some b) := by
    unfold PySem.W.ownOf
    rw [hdict]
    rfl
  rw [e]
  rfl

theorem get_ball {od : Obj} {v : Value} (X : (hd.heap_1 w.params).In s.heap) (I : InstAt s.heap x ox 51 (some od)) (hf : findObj (hd.heap_1 w.params) 51 (some od) "ball" = some (.value v)) (hh : handedIn v = true)
    (h : Q v { s with toks := s.toks + 1 }) : wpAny (model PySem.Challenge.pw_rh0073_01 w) A (getAttr (.ref x) "ball" expr) Q E s := by
  obtain ⟨hp, g, d, t, os⟩ := s
  have FB := PySem.F.attrBase_Exception
  have L0 := I.type (M := model PySem.Challenge.pw_rh0073_01 w)
  have L1 := looks_findIn (M := model PySem.Challenge.pw_rh0073_01 w) X pe_find_ga
  have L2 := looks_findIn (M := model PySem.Challenge.pw_rh0073_01 w) X pe_find_gattr
  have L3 := looks_find (M := model PySem.Challenge.pw_rh0073_01 w) X I hf
  obtain ⟨cd, hc, hdict, hmro, -⟩ := @pe_cls w.params
  have sub : Looks (model PySem.Challenge.pw_rh0073_01 w) hp (isInstance (.ref x) (.type "BaseException")) true := I.type.andThen (looks_mroIn X (by unfold mroIn; rw [hc, Option.bind_some, hmro]; rfl))
  have hx0 : (expr && onTheHeap (Value.builtin "BaseException.__getattribute__")) = false := by cases expr <;> rfl
  unfold getAttr getAttrBy
  refine wpAny_bind (wpAny_mkText (wpAny_holding (wpAny_bind (L0.at (wpAny_bind (L1.at ?_))))))
  show wpAny _ _ (getAttrByItsOwn _ _ _ _ _ _) _ _ _
  unfold getAttrByItsOwn hookBefore callGetattribute boundAndCalled
  rw [hx0]
  refine wpAny_bind (L2.at (wpAny_bind (wpAny_attempt (wpAny_holding ?_))))
  show wpAny _ _ (bindSpecial (.builtin "BaseException.__getattribute__") (.ref x) >>= _) _ _ _
  refine wpAny_bind (wpAny_of_eq (FB.ga.bind _) ?_)
  refine wpAny_call (codeAny_call_builtin FB.ga.plain F.entry_bexc_ga (check_slot (i := "BaseException.__getattribute__") (owner := "BaseException") (n := "__getattribute__") (by decide +kernel) (by decide +kernel) sub (F.args_bexc_ga _ _) ?_))
  refine wpAny_bind (wpAny_pure (wpAny_bind (wpAny_pure (wpAny_bind (L0.at (wpAny_bind (L3.at ?_)))))))
  refine wpAny_pure ?_
  show wpAny _ _ (handedOut v) _ _ _
  rw [handedOut_of hh]; exact wpAny_pure h
end
end Mine
end

section
open PySem PySem.W PySem.Spec PySem.Calls PyProof.Rows PyProof.V
set_option maxRecDepth 100000
set_option maxHeartbeats 8000000
namespace Mine

local macro_rules | `(tactic| k_all) => `(tactic| first | with_reducible assumption | exact allLt_ne (by with_reducible assumption) | exact ne_app (by with_reducible assumption) (by first | with_reducible assumption | exact Apart.addr (by with_reducible assumption) (by repeat (first | exact List.Mem.head _ | apply List.Mem.tail))))
local macro_rules | `(tactic| ktr_units) => `(tactic| (have hcL9 := cLine_is; (try simp only [units_in1, units_deeper, units_under_make, Around.mark_units, units_caller] at *); (try dsimp only [ktrTop] at *); omega))
local macro_rules | `(tactic| k_room) => `(tactic| ktr_room)
local macro_rules | `(tactic| k_units) => `(tactic| ktr_units)
local macro_rules | `(tactic| ktr_unf) => `(tactic| first | with_reducible assumption | exact Apart.addr (by with_reducible assumption) (by repeat (first | exact List.Mem.head _ | apply List.Mem.tail)) | exact lt_tab0 (by with_reducible assumption) | exact lt_tab1 (by with_reducible assumption) | exact lt_tab2 (by with_reducible assumption))
local macro_rules | `(tactic| ktr_rel) => `(tactic| first | exact TailF.app (by assumption) | exact TailF.nil | (refine' TailF.cons ?a ?b; (case a => ktr_unf); (case b => ktr_rel)))
local macro_rules | `(tactic| walk_at "getMethod ref") => `(tactic| (k_here; k_dflt (refine' meth_sym ?F ?X ?N ?G ?S ?hg ?hf ?ht ?hl ?_; (case F => k_asm); (case X => k_asm); (case N => k_asm); (case S => with_reducible assumption); (case G => ktr_rel); (case hg => k_is); (case hf => k_is); (case ht => k_is); (case hl => (intros; k_get)); k_whole)))
local macro_rules | `(tactic| walk_at "call ref") => `(tactic| (k_here; (with_reducible show wpAny _ _ (call (Value.ref 88) _) _ _ _); k_dflt (refine' atomS ?B ?F ?X ?N ?G ?S ?T ?hk ?hlen ?hd ?hu ?_; (case B => k_asm); (case F => k_asm); (case X => k_asm); (case N => k_asm); (case S => with_reducible assumption); (case G => ktr_rel); (case T => k_asm); (case hk => first | rfl | assumption); (case hlen => omega); (case hd => ktr_room); (case hu => ktr_units); k_whole); intro k9 t9 h9 tk9 tab9 tx9 S9 p9 l9 q9 F9 N9 A9; (try simp only [List.cons_append, List.nil_append] at N9); (try k_sweep); (try dsimp only); (try k_fold)))
local macro_rules | `(tactic| walk_at "call ref") => `(tactic| (k_here; (with_reducible show wpAny _ _ (call (Value.ref 109) _) _ _ _); k_dflt (refine' funcS ?B ?F ?X ?N ?G ?S ?T ?hk ?hlen ?hlenF ?hd ?hu ?_; (case B => k_asm); (case F => k_asm); (case X => k_asm); (case N => k_asm); (case S => with_reducible assumption); (case G => ktr_rel); (case T => k_asm); (case hk => first | rfl | assumption); (case hlen => omega); (case hlenF => omega); (case hd => ktr_room); (case hu => ktr_units); k_whole); intro k9 ka9 t9 h9 tk9 tab9 tx9 fs9 S9 p9 pf9 l9 lf9 q9 qf9 F9 N9 A9; (try simp only [List.cons_append, List.nil_append] at N9); (try k_sweep); (try dsimp only); (try k_fold)))


theorem pre_lt {l : Addr} {pre tab : List (Addr × Obj)} (h : ∀ p ∈ pre ++ tab, p.1 < l) : ∀ p ∈ pre, p.1 ≠ l := fun p hp => Nat.ne_of_lt (h p (List.mem_append_left _ hp))
section
variable {w : World} {mean : ExcName → Option Value} {mg mb' : Str → Option Value} {dp un : Nat} {gd : Option (List Code)} {cn : Str} {cs : Scope} {a : Addr} {ccd : Value} {cl : List (Str × Addr)} {outer : List Env} {A₀ : Around} {base h₀ : Heap} {L : Addr} {m : Str → Option Value} {s : Shared} {Q E : Value → Shared → Prop}
variable {tab news pre : List (Addr × Obj)} {x : Addr} {texts : List Str} {fs : List (Int × Int)}
theorem afS2 {word : Str} {k ka c : Nat} {V : Addr} {b e e' mb mo : Int} {tk tm t1 t2 t3 t4 : Tok} (hw : word = "^" ∨ word = "**")
  (B : Below A₀ base outer h₀) (F : Fr h₀ L s.heap m) (X : (hd.heap_1 w.params).In h₀) (N : News h₀ L s.heap ((V, W.listOf #[.int mo t1, .int e' t2, .int b t3, .int e t4] c) :: (pre ++ tab))) (S : SymR w tab x texts fs) (hV : ∀ p ∈ pre ++ tab, p.1 ≠ V) (hA : Apart pre tab)
  (Tp : Top hd.view_1 (looseW hd.view_1 []) mean mg mb' h₀) (hk : cs.kind = .function) (hlen : texts.length ≤ 60000) (hlenF : fs.length ≤ 60000) (hf : fs[k]? = some ((ka : Int), 2)) (hx : texts[ka]? = some word) (hd' : dp + 18 < recursionLimit) (hu : un + 180 < cLine)
  (hmb : mb ≤ 10000) (hbb : Builtin.Int.intBits b ≤ 20000)
  (hall : (∀ v tv c' h' tk', afO b e mb = .int v → Fr h₀ L h' m → News h₀ L h' ((V, W.listOf #[.int mo t1, .int e' t2, .int v tv] c') :: (pre ++ tab)) → Q .none { s with heap := h', toks := tk' }) ∧
    (afO b e mb = .res → ∀ c', ErrOut w base h₀ L m (envX cn cs L a ccd cl :: outer) x ((V, W.listOf #[.int mo t1, .int e' t2] c') :: pre) texts fs ResF E s) ∧
    (afO b e mb = .typ → ∀ c', ErrOut w base h₀ L m (envX cn cs L a ccd cl :: outer) x ((V, W.listOf #[.int mo t1, .int e' t2] c') :: pre) texts fs (fun t f d => TypF t f b d) E s)) :
  wpAny (model PySem.Challenge.pw_rh0073_01 w) (ktrTop dp un gd cn cs L a ccd cl outer) (call (.ref 291) [.ref x, .int (k : Int) tk, .ref V, .int mb tm]) Q E s :=
  afS hw B F X N hV hA S Tp hk hlen hlenF hf hx hd' hu hmb hbb hall.1 hall.2.1 hall.2.2
end

local macro_rules | `(tactic| walk_at "call ref") => `(tactic| (k_here; (with_reducible show wpAny _ _ (call (Value.ref 291) _) _ _ _); k_dflt (refine' afS2 ?hw ?B ?F ?X ?N ?S ?hV ?hA ?T ?hk ?hlen ?hlenF ?hf ?hx ?hd ?hu ?hmb ?hbb ?_; (case hw => assumption); (case B => k_asm); (case F => k_asm); (case X => k_asm); (case S => with_reducible assumption); (case N => k_asm); (case hV => first | k_all | exact ne_app (pre_lt (by with_reducible assumption)) (Apart.addr (by with_reducible assumption) (.head _))); (case hA => first | with_reducible assumption | exact Apart.drop1 (by with_reducible assumption)); (case T => k_asm); (case hk => first | rfl | assumption); (case hlen => omega); (case hlenF => omega); (case hf => assumption); (case hx => assumption); (case hd => ktr_room); (case hu => ktr_units); (case hmb => omega); (case hbb => first | assumption | omega); k_whole); k_dflt (refine ⟨fun v9 tv9 c9 h9 tk9 o9 F9 N9 => ?_, fun o9 c9 e9 dx9 f9 ext9 h9 tk9 tab9 tx9 fs9 g9 S9 p9 pf9 l9 lf9 r9 b9 A9 F9 R9 U9 => ?_, fun o9 c9 e9 dx9 f9 ext9 h9 tk9 tab9 tx9 fs9 g9 S9 p9 pf9 l9 lf9 r9 b9 A9 F9 R9 U9 => ?_⟩) <;> ((try k_sweep); (try dsimp only); (try k_fold))))

theorem BallX.ref {ext : List (Addr × Obj)} {dx : Addr} {f : Dat} (h : BallX ext dx (ballD f)) : ∃ b hs tk, (dx, W.dictOf [⟨hs, .str "ball" tk, .ref b⟩] 1) ∈ ext ∧ DatIn ext (.ref b) (ballD f) := by
  obtain ⟨v, hs, tk, hm, hd⟩ := h
  have hd' := hd
  cases hd with
  | tuple h1 h2 => exact ⟨_, hs, tk, hm, hd'⟩
theorem get_ballN {w : World} {A : Around} {E : Value → Shared → Prop} {s : Shared} {Q : Value → Shared → Prop} {h₀ : Heap} {L e dx b : Addr} {m : Str → Option Value} {news : List (Addr × Obj)} {oe : Obj} {hs : Int} {tk : Tok} {expr : Bool}
    (F : Fr h₀ L s.heap m) (N : News h₀ L s.heap news) (X₀ : (hd.heap_1 w.params).In h₀) (he : (e, oe) ∈ news) (c1 : oe.cls = .ref 51) (c2 : oe.dict = some dx) (c3 : ∃ vs, oe.data = .fields vs) (hm : (dx, W.dictOf [⟨hs, .str "ball" tk, .ref b⟩] 1) ∈ news)
    (h : Q (.ref b) { s with toks := s.toks + 1 }) : wpAny (model PySem.Challenge.pw_rh0073_01 w) A (getAttr (.ref e) "ball" expr) Q E s := by
  refine get_ball (od := W.dictOf [⟨hs, .str "ball" tk, .ref b⟩] 1) (X₀.keeps F.keep) ⟨(N _ he).1, c1, ?_, ?_⟩ ball_found rfl h
  · obtain ⟨vs, e⟩ := c3
    obtain ⟨_, _, dt, _⟩ := oe
    dsimp only at e
    subst e
    rfl
  · rw [c2]; exact (N _ hm).1
theorem pullN {h₀ h : Heap} {L : Addr} {q v : Addr × Obj} {ext pre tab : List (Addr × Obj)} (N : News h₀ L h (q :: (ext ++ (v :: pre ++ tab)))) : News h₀ L h (v :: q :: (ext ++ (pre ++ tab))) := fun p hp => N p (by
  simp only [List.mem_cons, List.mem_append] at hp ⊢
  rcases hp with h | h | h | h | h <;> simp only [h, true_or, or_true])
local macro_rules | `(tactic| walk_at "getAttr ref") => `(tactic| (k_here; k_dflt (refine' get_ballN ?F ?N ?X ?he ?c1 ?c2 ?c3 ?hm ?_; (case F => k_asm); (case N => k_asm); (case X => k_asm); (case c1 => assumption); (case c2 => assumption); (case c3 => assumption); (case he => k_mem); (case hm => (repeat (first | exact List.mem_append_left _ (by with_reducible assumption) | apply List.Mem.tail))); k_whole)))
local macro_rules | `(tactic| walk_at "noteFrame ref") => `(tactic| (k_here; k_dflt (refine' caughtD ?R ?F ?K ?U ?XB ?TB ?D ?T0 ?ex ?q ?_; (case R => assumption); (case F => assumption); (case K => assumption); (case U => assumption); (case XB => assumption); (case TB => assumption); (case D => assumption); (case T0 => first | assumption | exact KtsTurn.refl); (case ex => k_is); (case q => kts_isx); k_whole); intro h' g' oe tk' T' F' N' c1 c2 c3 K' X' P' D'; (try (have N' := pullN N')); (with_reducible rename BallX _ _ _ => bx); (obtain ⟨bb, bhs, btk, bm, bd⟩ := BallX.ref bx); (try k_lift K'); (try k_sweep)))
local macro_rules | `(tactic| walk_at "told go") => `(tactic| (refine' code_defS0 ?k1 ?k2 ?k3 ?k4 ?k5 ?kA ?k6 ?k7 ?k8 ?k9 ?kB ?_ ?cK ?c2 ?c3 ?c4 ?c5; (case kA => exact rfl); (case k2 => k_asm); (case k1 => k_asm); (case k3 => k_asm); (case k4 => k_asm); (case k5 => k_asm); (case k6 => k_is); (case k7 => k_is); (case k8 => ktr_room); (case k9 => exact BindsTo.of_eq rfl); (case kB => exact locs rfl); (case cK => assumption); (case c2 => exact rfl); (case c3 => exact rfl); (case c4 => exact rfl); (case c5 => decide); k_whole; intro g' L' h' FG' F' N' B' X' T' D'; (try dsimp only); (try k_lift B'); (try k_fold)))
section
variable {w : World} {mean : ExcName → Option Value} {mg mb' : Str → Option Value} {dp un : Nat} {gd : Option (List Code)} {cn : Str} {cs : Scope} {a : Addr} {ccd : Value} {cl : List (Str × Addr)} {outer : List Env} {A₀ : Around} {base h₀ : Heap} {L : Addr} {m : Str → Option Value} {s : Shared} {Q E : Value → Shared → Prop}
variable {tab news pre : List (Addr × Obj)} {x : Addr} {texts : List Str} {fs : List (Int × Int)}

def OutD (texts : List Str) (fs : List (Int × Int)) (b : Int) : Out → Dat → Prop
  | .int v, d => d = .int v
  | .res, d => ∃ f, ResF texts fs f ∧ d = ballD f
  | .typ, d => ∃ f, TypF texts fs b f ∧ d = ballD f
theorem Apart.reobj {l : Addr} {o o' : Obj} {pre tab : List (Addr × Obj)} (h : Apart ((l, o) :: pre) tab) : Apart ((l, o') :: pre) tab := ⟨fun p hp q hq => by
  rcases List.mem_cons.mp hp with rfl | hp
  · exact h.at_ (l, o) (.head _) q hq
  · exact h.at_ p (.tail _ hp) q hq⟩
theorem told_apart0 {R T l : Addr} {oR oT ol ol' : Obj} {pre tab : List (Addr × Obj)} (hT : @LT.lt Nat _ l T ∧ AllLt T (pre ++ tab)) (hR : @LT.lt Nat _ T R ∧ @LT.lt Nat _ l R ∧ AllLt R (pre ++ tab)) (hA : Apart ((l, ol) :: pre) tab) : Apart ((R, oR) :: (T, oT) :: (l, ol') :: pre) tab := ⟨fun p hp q hq => by
  simp only [List.mem_cons] at hp
  rcases hp with rfl | rfl | rfl | hp
  · exact Nat.ne_of_lt (of_allLt hR.2.2 q (List.mem_append_right _ hq))
  · exact Nat.ne_of_lt (of_allLt hT.2 q (List.mem_append_right _ hq))
  · exact hA.at_ (l, ol) (.head _) q hq
  · exact hA.at_ p (.tail _ hp) q hq⟩
theorem told_apart {D D1 l e : Addr} {oD o1 ol ol' : Obj} {ext pre tab : List (Addr × Obj)} (h1 : @LT.lt Nat _ l D1 ∧ @LT.lt Nat _ e D1 ∧ AllLt D1 (ext ++ (pre ++ tab))) (h2 : @LT.lt Nat _ D1 D ∧ @LT.lt Nat _ l D ∧ @LT.lt Nat _ e D ∧ AllLt D (ext ++ (pre ++ tab))) (hA : Apart (ext ++ (l, ol) :: pre) tab) :
    Apart (((D, oD) :: (D1, o1) :: (l, ol') :: ext) ++ pre) tab := ⟨fun p hp q hq => by
  have hqm : q ∈ ext ++ (pre ++ tab) := List.mem_append_right _ (List.mem_append_right _ hq)
  simp only [List.cons_append, List.mem_cons, List.mem_append] at hp
  rcases hp with rfl | rfl | rfl | hp | hp
  · exact Nat.ne_of_lt (of_allLt h2.2.2.2 q hqm)
  · exact Nat.ne_of_lt (of_allLt h1.2.2 q hqm)
  · exact hA.at_ (l, ol) (List.mem_append_right _ (.head _)) q hq
  · exact hA.at_ p (List.mem_append_left _ hp) q hq
  · exact hA.at_ p (List.mem_append_right _ (.tail _ hp)) q hq⟩
theorem told_news {h : Heap} {a b c d : Addr × Obj} {ext r : List (Addr × Obj)} (N : News h₀ L h (a :: b :: c :: d :: (ext ++ r))) : News h₀ L h ((a :: b :: c :: ext) ++ r) := fun p hp => N p (by
  simp only [List.cons_append, List.mem_cons, List.mem_append] at hp ⊢
  rcases hp with h | h | h | h | h <;> simp only [h, true_or, or_true])
theorem told_dat {D D1 l b : Addr} {t1 t2 : Tok} {mo e : Int} {n : Nat} {ol : Obj} {ext : List (Addr × Obj)} {d : Dat} (hd : DatIn ext (.ref b) d) :
    DatIn ((D, tupO [.ref D1, .ref b]) :: (D1, W.listOf [.int mo t1, .int e t2].toArray n) :: (l, ol) :: ext) (.ref D) (.tuple [.list [.int mo, .int e], d]) :=
  .tuple (.head _) (.cons (.list (.tail _ (.head _)) (.cons (.int _ _) (.cons (.int _ _) .nil))) (.cons (hd.mono fun p hp => .tail _ (.tail _ (.tail _ hp))) .nil))

theorem toldS {word : Str} {b e mo : Int} {tw tb te tm : Tok} (hw : word = "^" ∨ word = "**")
  (B : Below A₀ base [] h₀) (F : Fr h₀ L s.heap m) (X : (hd.heap_1 w.params).In h₀) (N : News h₀ L s.heap (pre ++ tab)) (hA : Apart pre tab) (S : SymR w tab x texts fs)
  (Tp : Top hd.view_1 (looseW hd.view_1 []) mean mg mb' h₀) (XB : (hd.heap_1 w.params).In base) (TB : Top hd.view_1 (looseW hd.view_1 []) mean mg mb' base) (hk : cs.kind = .function) (hlen : texts.length ≤ 50000) (hlenF : fs.length ≤ 50000) (hd' : dp + 20 < recursionLimit) (hu : un + 200 < cLine)
  (hmb : mo ≤ 10000) (hbb : Builtin.Int.intBits b ≤ 20000)
  (hret : ∀ r d ext h' tk' tab' texts' fs', SymR w tab' x texts' fs' → texts <+: texts' → fs <+: fs' → texts'.length ≤ texts.length + 3 → fs'.length ≤ fs.length + 2 → OutD texts' fs' b (afO b e mo) d → DatIn ext (.ref r) (.tuple [.list [.int mo, .int e], d]) → Apart (ext ++ pre) tab' →
    Fr h₀ L h' m → News h₀ L h' (ext ++ (pre ++ tab')) → Q (.ref r) { s with heap := h', toks := tk' }) :
  wpAny (model PySem.Challenge.pw_rh0073_01 w) (ktrTop dp un gd cn cs L a ccd [] []) (call (.ref 326) [.ref x, .str word tw, .int b tb, .int e te, .int mo tm]) Q E s := by
  refine wpAny_call ?_
  k_dflt walk_at "told go"
  k_steps
  · (with_reducible rename (_ ∧ _ ∧ AllLt _ _) => ltR)
    (with_reducible rename (_ ∧ AllLt _ _) => ltT)
    (with_reducible rename afO _ _ _ = _ => oE)
    refine hret _ _ [_, _, _] _ _ _ _ _ (by assumption) (by assumption) (by assumption) (by omega) (by omega) (by rw [oE]; exact rfl) ?_ (told_apart0 ltT ltR (by assumption)) (by assumption) (by assumption)
    exact .tuple (.head _) (.cons (.list (.tail _ (.head _)) (.cons (.int _ _) (.cons (.int _ _) .nil))) (.cons (.int _ _) .nil))
  all_goals
    (with_reducible rename (_ ∧ _ ∧ _ ∧ AllLt _ _) => ltR)
    (with_reducible rename (_ ∧ _ ∧ AllLt _ _) => ltT)
    (with_reducible rename afO _ _ _ = _ => oE)
    (with_reducible rename News _ _ _ _ => nE)
    (with_reducible rename Fr _ _ _ _ => fE)
    refine hret _ _ _ _ _ _ _ _ (by assumption) (List.IsPrefix.trans (by assumption) (by assumption)) (List.IsPrefix.trans (by assumption) (by assumption)) (by omega) (by omega) (by rw [oE]; exact ⟨_, by assumption, rfl⟩) (told_dat (by assumption)) (told_apart ltT ltR (by assumption)) fE (told_news nE)
end
end Mine
end

section
local macro_rules | `(tactic| walk_at "pad") => `(tactic| fail)
open PySem PySem.W PySem.Spec PySem.Calls PyProof.Rows PyProof.V
set_option maxRecDepth 100000
set_option maxHeartbeats 8000000
namespace Mine

local macro_rules | `(tactic| k_all) => `(tactic| first | with_reducible assumption | exact allLt_ne (by with_reducible assumption) | exact ne_app (by with_reducible assumption) (by first | with_reducible assumption | exact Apart.addr (by with_reducible assumption) (by repeat (first | exact List.Mem.head _ | apply List.Mem.tail))))
local macro_rules | `(tactic| ktr_units) => `(tactic| (have hcL9 := cLine_is; (try simp only [units_in1, units_deeper, units_under_make, Around.mark_units, units_caller] at *); (try dsimp only [ktrTop] at *); omega))
local macro_rules | `(tactic| k_room) => `(tactic| ktr_room)
local macro_rules | `(tactic| k_units) => `(tactic| ktr_units)
local macro_rules | `(tactic| ktr_unf) => `(tactic| first | with_reducible assumption | exact Apart.addr (by with_reducible assumption) (by repeat (first | exact List.Mem.head _ | apply List.Mem.tail)) | exact lt_tab0 (by with_reducible assumption) | exact lt_tab1 (by with_reducible assumption) | exact lt_tab2 (by with_reducible assumption))
local macro_rules | `(tactic| ktr_rel) => `(tactic| first | exact TailF.app (by assumption) | exact TailF.nil | (refine' TailF.cons ?a ?b; (case a => ktr_unf); (case b => ktr_rel)))
local macro_rules | `(tactic| walk_at "getMethod ref") => `(tactic| (k_here; k_dflt (refine' meth_sym ?F ?X ?N ?G ?S ?hg ?hf ?ht ?hl ?_; (case F => k_asm); (case X => k_asm); (case N => k_asm); (case S => with_reducible assumption); (case G => ktr_rel); (case hg => k_is); (case hf => k_is); (case ht => k_is); (case hl => (intros; k_get)); k_whole)))
local macro_rules | `(tactic| walk_at "call ref") => `(tactic| (k_here; (with_reducible show wpAny _ _ (call (Value.ref 88) _) _ _ _); k_dflt (refine' atomS ?B ?F ?X ?N ?G ?S ?T ?hk ?hlen ?hd ?hu ?_; (case B => k_asm); (case F => k_asm); (case X => k_asm); (case N => k_asm); (case S => with_reducible assumption); (case G => ktr_rel); (case T => k_asm); (case hk => first | rfl | assumption); (case hlen => omega); (case hd => ktr_room); (case hu => ktr_units); k_whole); intro k9 t9 h9 tk9 tab9 tx9 S9 p9 l9 q9 F9 N9 A9; (try simp only [List.cons_append, List.nil_append] at N9); (try k_sweep); (try dsimp only); (try k_fold)))
local macro_rules | `(tactic| walk_at "call ref") => `(tactic| (k_here; (with_reducible show wpAny _ _ (call (Value.ref 109) _) _ _ _); k_dflt (refine' funcS ?B ?F ?X ?N ?G ?S ?T ?hk ?hlen ?hlenF ?hd ?hu ?_; (case B => k_asm); (case F => k_asm); (case X => k_asm); (case N => k_asm); (case S => with_reducible assumption); (case G => ktr_rel); (case T => k_asm); (case hk => first | rfl | assumption); (case hlen => omega); (case hlenF => omega); (case hd => ktr_room); (case hu => ktr_units); k_whole); intro k9 ka9 t9 h9 tk9 tab9 tx9 fs9 S9 p9 pf9 l9 lf9 q9 qf9 F9 N9 A9; (try simp only [List.cons_append, List.nil_append] at N9); (try k_sweep); (try dsimp only); (try k_fold)))

local macro_rules | `(tactic| walk_at "call ref") => `(tactic| (k_here; (with_reducible show wpAny _ _ (call (Value.ref 235) _) _ _ _); k_dflt (refine' powS2 ?B ?F ?X ?N ?G ?S ?T ?hk ?hlen ?hlenF ?hd ?hu ?hmb ?hbb ?_; (case B => k_asm); (case F => k_asm); (case X => k_asm); (case S => with_reducible assumption); (case N => k_asm); (case G => ktr_rel); (case T => k_asm); (case hk => first | rfl | assumption); (case hlen => omega); (case hlenF => omega); (case hd => ktr_room); (case hu => ktr_units); (case hmb => omega); (case hbb => first | assumption | omega); k_whole); k_dflt (refine ⟨fun v9 tv9 h9 tk9 o9 F9 N9 => ?_, fun o9 e9 dx9 f9 ext9 h9 tk9 tab9 tx9 fs9 g9 S9 p9 pf9 l9 lf9 r9 b9 A9 F9 R9 U9 => ?_, fun o9 e9 dx9 f9 ext9 h9 tk9 tab9 tx9 fs9 g9 S9 p9 pf9 l9 lf9 r9 b9 A9 F9 R9 U9 => ?_⟩) <;> ((try k_sweep); (try dsimp only); (try k_fold))))
local macro_rules | `(tactic| walk_at "noteFrame ref") => `(tactic| (k_here; k_dflt (refine' caughtD ?R ?F ?K ?U ?XB ?TB ?D ?T0 ?ex ?q ?_; (case R => assumption); (case F => assumption); (case K => assumption); (case U => assumption); (case XB => assumption); (case TB => assumption); (case D => assumption); (case T0 => first | assumption | exact KtsTurn.refl); (case ex => k_is); (case q => kts_isx); k_whole); intro h' g' oe tk' T' F' N' c1 c2 c3 K' X' P' D'; (try (have N' := pullN N')); (with_reducible rename BallX _ _ _ => bx); (obtain ⟨bb, bhs, btk, bm, bd⟩ := BallX.ref bx); (try k_lift K'); (try k_sweep)))
local macro_rules | `(tactic| walk_at "getAttr ref") => `(tactic| (k_here; k_dflt (refine' get_ballN ?F ?N ?X ?he ?c1 ?c2 ?c3 ?hm ?_; (case F => k_asm); (case N => k_asm); (case X => k_asm); (case c1 => assumption); (case c2 => assumption); (case c3 => assumption); (case he => k_mem); (case hm => (repeat (first | exact List.mem_append_left _ (by with_reducible assumption) | apply List.Mem.tail))); k_whole)))
local macro_rules | `(tactic| walk_at "told go") => `(tactic| (refine' code_defS0 ?k1 ?k2 ?k3 ?k4 ?k5 ?kA ?k6 ?k7 ?k8 ?k9 ?kB ?_ ?cK ?c2 ?c3 ?c4 ?c5; (case kA => exact rfl); (case k2 => k_asm); (case k1 => k_asm); (case k3 => k_asm); (case k4 => k_asm); (case k5 => k_asm); (case k6 => k_is); (case k7 => k_is); (case k8 => ktr_room); (case k9 => exact BindsTo.of_eq rfl); (case kB => exact locs rfl); (case cK => assumption); (case c2 => exact rfl); (case c3 => exact rfl); (case c4 => exact rfl); (case c5 => decide); k_whole; intro g' L' h' FG' F' N' B' X' T' D'; (try dsimp only); (try k_lift B'); (try k_fold)))
section
variable {w : World} {mean : ExcName → Option Value} {mg mb' : Str → Option Value} {dp un : Nat} {gd : Option (List Code)} {cn : Str} {cs : Scope} {a : Addr} {ccd : Value} {cl : List (Str × Addr)} {outer : List Env} {A₀ : Around} {base h₀ : Heap} {L : Addr} {m : Str → Option Value} {s : Shared} {Q E : Value → Shared → Prop}
variable {tab news pre : List (Addr × Obj)} {x : Addr} {texts : List Str} {fs : List (Int × Int)}

theorem bareS {b e mo : Int} {tb te tm : Tok}
  (B : Below A₀ base [] h₀) (F : Fr h₀ L s.heap m) (X : (hd.heap_1 w.params).In h₀) (N : News h₀ L s.heap (pre ++ tab)) (hA : Apart pre tab) (S : SymR w tab x texts fs)
  (Tp : Top hd.view_1 (looseW hd.view_1 []) mean mg mb' h₀) (XB : (hd.heap_1 w.params).In base) (TB : Top hd.view_1 (looseW hd.view_1 []) mean mg mb' base) (hk : cs.kind = .function) (hlen : texts.length ≤ 50000) (hlenF : fs.length ≤ 50000) (hd' : dp + 20 < recursionLimit) (hu : un + 200 < cLine)
  (hmb : mo ≤ 10000) (hbb : Builtin.Int.intBits b ≤ 20000)
  (hret : ∀ v tv h' tk', powO b e mo = .int v → Fr h₀ L h' m → News h₀ L h' (pre ++ tab) → Q (.int v tv) { s with heap := h', toks := tk' })
  (herr : ∀ r d ext h' tk' tab' texts' fs', (∀ v, powO b e mo ≠ .int v) → SymR w tab' x texts' fs' → texts <+: texts' → fs <+: fs' → texts'.length ≤ texts.length + 2 → fs'.length ≤ fs.length + 1 → OutD texts' fs' b (powO b e mo) d → DatIn ext (.ref r) d → Apart (ext ++ pre) tab' →
    Fr h₀ L h' m → News h₀ L h' (ext ++ (pre ++ tab')) → Q (.ref r) { s with heap := h', toks := tk' }) :
  wpAny (model PySem.Challenge.pw_rh0073_01 w) (ktrTop dp un gd cn cs L a ccd [] []) (call (.ref 333) [.ref x, .int b tb, .int e te, .int mo tm]) Q E s := by
  refine wpAny_call ?_
  k_dflt walk_at "told go"
  k_steps
  · exact hret _ _ _ _ (by assumption) (by assumption) (by assumption)
  all_goals
    (with_reducible rename powO _ _ _ = _ => oE)
    (with_reducible rename News _ _ _ _ => nE)
    (with_reducible rename Fr _ _ _ _ => fE)
    exact herr _ _ _ _ _ _ _ _ (fun v => by rw [oE]; intro h; cases h) (by assumption) (by assumption) (by assumption) (by assumption) (by assumption) (by rw [oE]; exact ⟨_, by assumption, rfl⟩) (by assumption) (by assumption) fE (tailN nE)
end
end Mine
end

section
open PySem PySem.W PySem.Spec PySem.Calls PyProof.Rows PyProof.V
set_option maxRecDepth 100000
set_option maxHeartbeats 8000000
namespace Mine

local macro_rules | `(tactic| k_all) => `(tactic| first | with_reducible assumption | exact allLt_ne (by with_reducible assumption) | exact ne_app (by with_reducible assumption) (by first | with_reducible assumption | exact Apart.addr (by with_reducible assumption) (by repeat (first | exact List.Mem.head _ | apply List.Mem.tail))))
local macro_rules | `(tactic| ktr_units) => `(tactic| (have hcL9 := cLine_is; (try simp only [units_in1, units_deeper, units_under_make, Around.mark_units, units_caller] at *); (try dsimp only [ktrTop] at *); omega))
local macro_rules | `(tactic| k_room) => `(tactic| ktr_room)
local macro_rules | `(tactic| k_units) => `(tactic| ktr_units)
theorem lt_tab3 {l : Addr} {c d f : Prop} {pre tab : List (Addr × Obj)} (h : c ∧ d ∧ f ∧ AllLt l (pre ++ tab)) : ∀ q ∈ tab, q.1 ≠ l := fun q hq => Nat.ne_of_lt (of_allLt h.2.2.2 q (List.mem_append_right _ hq))
theorem lt_tab4 {l : Addr} {c0 c1 c2 c3 : Prop} {pre tab : List (Addr × Obj)} (h : c0 ∧ c1 ∧ c2 ∧ c3 ∧ AllLt l (pre ++ tab)) : ∀ q ∈ tab, q.1 ≠ l := fun q hq => Nat.ne_of_lt (of_allLt h.2.2.2.2 q (List.mem_append_right _ hq))
theorem lt_tab5 {l : Addr} {c0 c1 c2 c3 c4 : Prop} {pre tab : List (Addr × Obj)} (h : c0 ∧ c1 ∧ c2 ∧ c3 ∧ c4 ∧ AllLt l (pre ++ tab)) : ∀ q ∈ tab, q.1 ≠ l := fun q hq => Nat.ne_of_lt (of_allLt h.2.2.2.2.2 q (List.mem_append_right _ hq))
theorem lt_tab6 {l : Addr} {c0 c1 c2 c3 c4 c5 : Prop} {pre tab : List (Addr × Obj)} (h : c0 ∧ c1 ∧ c2 ∧ c3 ∧ c4 ∧ c5 ∧ AllLt l (pre ++ tab)) : ∀ q ∈ tab, q.1 ≠ l := fun q hq => Nat.ne_of_lt (of_allLt h.2.2.2.2.2.2 q (List.mem_append_right _ hq))
theorem lt_tab7 {l : Addr} {c0 c1 c2 c3 c4 c5 c6 : Prop} {pre tab : List (Addr × Obj)} (h : c0 ∧ c1 ∧ c2 ∧ c3 ∧ c4 ∧ c5 ∧ c6 ∧ AllLt l (pre ++ tab)) : ∀ q ∈ tab, q.1 ≠ l := fun q hq => Nat.ne_of_lt (of_allLt h.2.2.2.2.2.2.2 q (List.mem_append_right _ hq))
theorem lt_tab8 {l : Addr} {c0 c1 c2 c3 c4 c5 c6 c7 : Prop} {pre tab : List (Addr × Obj)} (h : c0 ∧ c1 ∧ c2 ∧ c3 ∧ c4 ∧ c5 ∧ c6 ∧ c7 ∧ AllLt l (pre ++ tab)) : ∀ q ∈ tab, q.1 ≠ l := fun q hq => Nat.ne_of_lt (of_allLt h.2.2.2.2.2.2.2.2 q (List.mem_append_right _ hq))
theorem lt_tab9 {l : Addr} {c0 c1 c2 c3 c4 c5 c6 c7 c8 : Prop} {pre tab : List (Addr × Obj)} (h : c0 ∧ c1 ∧ c2 ∧ c3 ∧ c4 ∧ c5 ∧ c6 ∧ c7 ∧ c8 ∧ AllLt l (pre ++ tab)) : ∀ q ∈ tab, q.1 ≠ l := fun q hq => Nat.ne_of_lt (of_allLt h.2.2.2.2.2.2.2.2.2 q (List.mem_append_right _ hq))
theorem lt_tab10 {l : Addr} {c0 c1 c2 c3 c4 c5 c6 c7 c8 c9 : Prop} {pre tab : List (Addr × Obj)} (h : c0 ∧ c1 ∧ c2 ∧ c3 ∧ c4 ∧ c5 ∧ c6 ∧ c7 ∧ c8 ∧ c9 ∧ AllLt l (pre ++ tab)) : ∀ q ∈ tab, q.1 ≠ l := fun q hq => Nat.ne_of_lt (of_allLt h.2.2.2.2.2.2.2.2.2.2 q (List.mem_append_right _ hq))
theorem lt_tab11 {l : Addr} {c0 c1 c2 c3 c4 c5 c6 c7 c8 c9 c10 : Prop} {pre tab : List (Addr × Obj)} (h : c0 ∧ c1 ∧ c2 ∧ c3 ∧ c4 ∧ c5 ∧ c6 ∧ c7 ∧ c8 ∧ c9 ∧ c10 ∧ AllLt l (pre ++ tab)) : ∀ q ∈ tab, q.1 ≠ l := fun q hq => Nat.ne_of_lt (of_allLt h.2.2.2.2.2.2.2.2.2.2.2 q (List.mem_append_right _ hq))
local macro_rules | `(tactic| ktr_unf) => `(tactic| first | with_reducible assumption | exact Apart.addr (by with_reducible assumption) (by repeat (first | exact List.Mem.head _ | apply List.Mem.tail)) | exact lt_tab0 (by with_reducible assumption) | exact lt_tab1 (by with_reducible assumption) | exact lt_tab2 (by with_reducible assumption) | exact lt_tab3 (by with_reducible assumption) | exact lt_tab4 (by with_reducible assumption) | exact lt_tab5 (by with_reducible assumption) | exact lt_tab6 (by with_reducible assumption) | exact lt_tab7 (by with_reducible assumption) | exact lt_tab8 (by with_reducible assumption) | exact lt_tab9 (by with_reducible assumption) | exact lt_tab10 (by with_reducible assumption) | exact lt_tab11 (by with_reducible assumption))
local macro_rules | `(tactic| ktr_rel) => `(tactic| first | exact TailF.app (by assumption) | exact TailF.nil | (refine' TailF.cons ?a ?b; (case a => ktr_unf); (case b => ktr_rel)))
local macro_rules | `(tactic| walk_at "getMethod ref") => `(tactic| (k_here; k_dflt (refine' meth_sym ?F ?X ?N ?G ?S ?hg ?hf ?ht ?hl ?_; (case F => k_asm); (case X => k_asm); (case N => k_asm); (case S => with_reducible assumption); (case G => ktr_rel); (case hg => k_is); (case hf => k_is); (case ht => k_is); (case hl => (intros; k_get)); k_whole)))
local macro_rules | `(tactic| walk_at "call ref") => `(tactic| (k_here; (with_reducible show wpAny _ _ (call (Value.ref 88) _) _ _ _); k_dflt (refine' atomS ?B ?F ?X ?N ?G ?S ?T ?hk ?hlen ?hd ?hu ?_; (case B => k_asm); (case F => k_asm); (case X => k_asm); (case N => k_asm); (case S => with_reducible assumption); (case G => ktr_rel); (case T => k_asm); (case hk => first | rfl | assumption); (case hlen => omega); (case hd => ktr_room); (case hu => ktr_units); k_whole); intro k9 t9 h9 tk9 tab9 tx9 S9 p9 l9 q9 F9 N9 A9; (try simp only [List.cons_append, List.nil_append] at N9); (try k_sweep); (try dsimp only); (try k_fold)))
local macro_rules | `(tactic| walk_at "call ref") => `(tactic| (k_here; (with_reducible show wpAny _ _ (call (Value.ref 109) _) _ _ _); k_dflt (refine' funcS ?B ?F ?X ?N ?G ?S ?T ?hk ?hlen ?hlenF ?hd ?hu ?_; (case B => k_asm); (case F => k_asm); (case X => k_asm); (case N => k_asm); (case S => with_reducible assumption); (case G => ktr_rel); (case T => k_asm); (case hk => first | rfl | assumption); (case hlen => omega); (case hlenF => omega); (case hd => ktr_room); (case hu => ktr_units); k_whole); intro k9 ka9 t9 h9 tk9 tab9 tx9 fs9 S9 p9 pf9 l9 lf9 q9 qf9 F9 N9 A9; (try simp only [List.cons_append, List.nil_append] at N9); (try k_sweep); (try dsimp only); (try k_fold)))


def Stop (p : Prop) : Prop := p
theorem Stop.out {p : Prop} (h : Stop p) : p := h
local macro_rules | `(tactic| walk_at "exec While") => `(tactic| refine Stop.out ?_)
def dueO (b e mo : Int) : Out :=
  if b = 1 ∨ b = -1 then .int (if e.fmod 2 = 0 then 1 else b) else if e < 0 then .typ else if b = 0 then .int (if e = 0 then 1 else 0) else
  if (b ^ e.toNat).natAbs < 2 ^ mo.toNat then .int (b ^ e.toNat) else .res
section
variable {w : World} {mean : ExcName → Option Value} {mg mb' : Str → Option Value} {dp un : Nat} {gd : Option (List Code)} {cn : Str} {cs : Scope} {a : Addr} {ccd : Value} {cl : List (Str × Addr)} {outer : List Env} {A₀ : Around} {base h₀ : Heap} {L : Addr} {m : Str → Option Value} {s : Shared} {Q E : Value → Shared → Prop}
variable {tab news pre : List (Addr × Obj)} {x : Addr} {texts : List Str} {fs : List (Int × Int)}

theorem Apart.cons1 {l : Addr} {o : Obj} {pre tab : List (Addr × Obj)} (h : ∀ q ∈ tab, q.1 ≠ l) (hA : Apart pre tab) : Apart ((l, o) :: pre) tab := ⟨fun p hp q hq => by
  rcases List.mem_cons.mp hp with rfl | hp
  · exact h q hq
  · exact hA.at_ p hp q hq⟩
local macro_rules | `(tactic| walk_at "due apart") => `(tactic| repeat (first | assumption | (refine Apart.cons1 ?_ ?_; ktr_unf)))
local macro_rules | `(tactic| walk_at "dat in") => `(tactic| repeat (first | exact DatAll.nil | exact DatIn.str _ _ | exact DatIn.int _ _ | refine DatAll.cons ?_ ?_ | (refine DatIn.tuple (by repeat (first | exact List.Mem.head _ | apply List.Mem.tail)) ?_)))
theorem lt_pre0 {l : Addr} {pre tab : List (Addr × Obj)} (h : ∀ p ∈ pre ++ tab, p.1 < l) : ∀ p ∈ pre, p.1 ≠ l := fun p hp => Nat.ne_of_lt (h p (List.mem_append_left _ hp))
theorem lt_pre1 {l : Addr} {c0 : Prop} {pre tab : List (Addr × Obj)} (h : c0 ∧ AllLt l (pre ++ tab)) : ∀ p ∈ pre, p.1 ≠ l := fun p hp => Nat.ne_of_lt (of_allLt h.2 p (List.mem_append_left _ hp))
theorem lt_pre2 {l : Addr} {c0 c1 : Prop} {pre tab : List (Addr × Obj)} (h : c0 ∧ c1 ∧ AllLt l (pre ++ tab)) : ∀ p ∈ pre, p.1 ≠ l := fun p hp => Nat.ne_of_lt (of_allLt h.2.2 p (List.mem_append_left _ hp))
theorem lt_pre3 {l : Addr} {c0 c1 c2 : Prop} {pre tab : List (Addr × Obj)} (h : c0 ∧ c1 ∧ c2 ∧ AllLt l (pre ++ tab)) : ∀ p ∈ pre, p.1 ≠ l := fun p hp => Nat.ne_of_lt (of_allLt h.2.2.2 p (List.mem_append_left _ hp))
theorem lt_pre4 {l : Addr} {c0 c1 c2 c3 : Prop} {pre tab : List (Addr × Obj)} (h : c0 ∧ c1 ∧ c2 ∧ c3 ∧ AllLt l (pre ++ tab)) : ∀ p ∈ pre, p.1 ≠ l := fun p hp => Nat.ne_of_lt (of_allLt h.2.2.2.2 p (List.mem_append_left _ hp))
theorem lt_pre5 {l : Addr} {c0 c1 c2 c3 c4 : Prop} {pre tab : List (Addr × Obj)} (h : c0 ∧ c1 ∧ c2 ∧ c3 ∧ c4 ∧ AllLt l (pre ++ tab)) : ∀ p ∈ pre, p.1 ≠ l := fun p hp => Nat.ne_of_lt (of_allLt h.2.2.2.2.2 p (List.mem_append_left _ hp))
theorem lt_pre6 {l : Addr} {c0 c1 c2 c3 c4 c5 : Prop} {pre tab : List (Addr × Obj)} (h : c0 ∧ c1 ∧ c2 ∧ c3 ∧ c4 ∧ c5 ∧ AllLt l (pre ++ tab)) : ∀ p ∈ pre, p.1 ≠ l := fun p hp => Nat.ne_of_lt (of_allLt h.2.2.2.2.2.2 p (List.mem_append_left _ hp))
theorem lt_pre7 {l : Addr} {c0 c1 c2 c3 c4 c5 c6 : Prop} {pre tab : List (Addr × Obj)} (h : c0 ∧ c1 ∧ c2 ∧ c3 ∧ c4 ∧ c5 ∧ c6 ∧ AllLt l (pre ++ tab)) : ∀ p ∈ pre, p.1 ≠ l := fun p hp => Nat.ne_of_lt (of_allLt h.2.2.2.2.2.2.2 p (List.mem_append_left _ hp))
theorem lt_pre8 {l : Addr} {c0 c1 c2 c3 c4 c5 c6 c7 : Prop} {pre tab : List (Addr × Obj)} (h : c0 ∧ c1 ∧ c2 ∧ c3 ∧ c4 ∧ c5 ∧ c6 ∧ c7 ∧ AllLt l (pre ++ tab)) : ∀ p ∈ pre, p.1 ≠ l := fun p hp => Nat.ne_of_lt (of_allLt h.2.2.2.2.2.2.2.2 p (List.mem_append_left _ hp))
theorem lt_pre9 {l : Addr} {c0 c1 c2 c3 c4 c5 c6 c7 c8 : Prop} {pre tab : List (Addr × Obj)} (h : c0 ∧ c1 ∧ c2 ∧ c3 ∧ c4 ∧ c5 ∧ c6 ∧ c7 ∧ c8 ∧ AllLt l (pre ++ tab)) : ∀ p ∈ pre, p.1 ≠ l := fun p hp => Nat.ne_of_lt (of_allLt h.2.2.2.2.2.2.2.2.2 p (List.mem_append_left _ hp))
theorem lt_pre10 {l : Addr} {c0 c1 c2 c3 c4 c5 c6 c7 c8 c9 : Prop} {pre tab : List (Addr × Obj)} (h : c0 ∧ c1 ∧ c2 ∧ c3 ∧ c4 ∧ c5 ∧ c6 ∧ c7 ∧ c8 ∧ c9 ∧ AllLt l (pre ++ tab)) : ∀ p ∈ pre, p.1 ≠ l := fun p hp => Nat.ne_of_lt (of_allLt h.2.2.2.2.2.2.2.2.2.2 p (List.mem_append_left _ hp))
theorem lt_pre11 {l : Addr} {c0 c1 c2 c3 c4 c5 c6 c7 c8 c9 c10 : Prop} {pre tab : List (Addr × Obj)} (h : c0 ∧ c1 ∧ c2 ∧ c3 ∧ c4 ∧ c5 ∧ c6 ∧ c7 ∧ c8 ∧ c9 ∧ c10 ∧ AllLt l (pre ++ tab)) : ∀ p ∈ pre, p.1 ≠ l := fun p hp => Nat.ne_of_lt (of_allLt h.2.2.2.2.2.2.2.2.2.2.2 p (List.mem_append_left _ hp))
theorem lt_preA {l : Addr} {pre tab : List (Addr × Obj)} (h : AllLt l (pre ++ tab)) : ∀ p ∈ pre, p.1 ≠ l := fun p hp => Nat.ne_of_lt (of_allLt h p (List.mem_append_left _ hp))
theorem Apart.nilR {pre : List (Addr × Obj)} : Apart pre [] := ⟨fun _ _ _ h => nomatch h⟩
theorem Apart.consR {l : Addr} {o : Obj} {pre tab : List (Addr × Obj)} (h : ∀ p ∈ pre, p.1 ≠ l) (hA : Apart pre tab) : Apart pre ((l, o) :: tab) := ⟨fun p hp q hq => by
  rcases List.mem_cons.mp hq with rfl | hq
  · exact (h p hp).symm
  · exact hA.at_ p hp q hq⟩
local macro_rules | `(tactic| walk_at "due fresh") => `(tactic| repeat (first | exact Apart.nilR | (refine Apart.consR (by first | exact lt_preA (by with_reducible assumption) | exact lt_pre0 (by with_reducible assumption) | exact lt_pre1 (by with_reducible assumption) | exact lt_pre2 (by with_reducible assumption) | exact lt_pre3 (by with_reducible assumption) | exact lt_pre4 (by with_reducible assumption) | exact lt_pre5 (by with_reducible assumption) | exact lt_pre6 (by with_reducible assumption) | exact lt_pre7 (by with_reducible assumption) | exact lt_pre8 (by with_reducible assumption) | exact lt_pre9 (by with_reducible assumption) | exact lt_pre10 (by with_reducible assumption) | exact lt_pre11 (by with_reducible assumption)) ?_)))
theorem any1 {b : Int} (h : ([1, -1].any fun x => x == b) = true) : b = 1 ∨ b = -1 := by
  simp only [List.any_cons, List.any_nil, Bool.or_false, Bool.or_eq_true, beq_iff_eq] at h
  omega
theorem any0 {b : Int} (h : ([1, -1].any fun x => x == b) = false) : ¬ (b = 1 ∨ b = -1) := by
  simp only [List.any_cons, List.any_nil, Bool.or_false, Bool.or_eq_false_iff, beq_eq_false_iff_ne] at h
  omega
theorem due_1 {b e mo : Int} (h : ([1, -1].any fun x => x == b) = true) (h2 : e.fmod 2 = 0) : dueO b e mo = .int 1 := by unfold dueO; rw [if_pos (any1 h), if_pos h2]
theorem due_2 {b e mo : Int} (h : ([1, -1].any fun x => x == b) = true) (h2 : e.fmod 2 ≠ 0) : dueO b e mo = .int b := by unfold dueO; rw [if_pos (any1 h), if_neg h2]
theorem due_3 {b e mo : Int} (h : ([1, -1].any fun x => x == b) = false) (h2 : e < 0) : dueO b e mo = .typ := by unfold dueO; rw [if_neg (any0 h), if_pos h2]
theorem due_4 {b e mo : Int} (h : ([1, -1].any fun x => x == b) = false) (h2 : ¬ e < 0) (h3 : b = 0) (h4 : e = 0) : dueO b e mo = .int 1 := by unfold dueO; rw [if_neg (any0 h), if_neg h2, if_pos h3, if_pos h4]
theorem due_5 {b e mo : Int} (h : ([1, -1].any fun x => x == b) = false) (h2 : ¬ e < 0) (h3 : b = 0) (h4 : e ≠ 0) : dueO b e mo = .int 0 := by unfold dueO; rw [if_neg (any0 h), if_neg h2, if_pos h3, if_neg h4]
/-- the loop of _law_due -/
def WJ (b e : Int) (m₀ : Str → Option Value) (nx₀ : List (Addr × Obj)) (n : Nat) (m' : Str → Option Value) (nx : List (Addr × Obj)) : Prop :=
  ∃ (k : Nat) (kk p : Int) (t1 t2 : Tok), nx = nx₀ ∧ n + k = e.toNat ∧ kk = (k : Int) ∧ p = b ^ k ∧ m' = fun (y : Str) => if y = ("times" : Str) then some (.int kk t2) else if y = ("product" : Str) then some (.int p t1) else m₀ y
theorem while_due {w : World} {A : Around} {E : Value → Shared → Prop} {Q : Flow → Shared → Prop} {s : Shared} {env : Env} {h₀ : Heap} {L : Addr} {test : Expr} {body : List Stmt} {pos : Pos} {m₀ : Str → Option Value} {news : List (Addr × Obj)} {b e : Int} {t1 t2 : Tok}
    (F : Fr h₀ L s.heap (fun (y : Str) => if y = ("times" : Str) then some (.int 0 t2) else if y = ("product" : Str) then some (.int 1 t1) else m₀ y)) (N : News h₀ L s.heap news)
    (turn : ∀ n (k : Nat) (kk p : Int) t1 t2 h₁ tk₁, n + k = e.toNat → kk = (k : Int) → p = b ^ k → Fr h₀ L h₁ (fun (y : Str) => if y = ("times" : Str) then some (.int kk t2) else if y = ("product" : Str) then some (.int p t1) else m₀ y) → News h₀ L h₁ news →
      wpAny (model PySem.Challenge.pw_rh0073_01 w) A (isTrue test env (eval test env)) (fun b' s₂ =>
        if b' = true then wpAny (model PySem.Challenge.pw_rh0073_01 w) A (execs body env) (WhileStep h₀ L s (WJ b e m₀ news) n) E s₂ else Q .next s₂) E { s with heap := h₁, toks := tk₁ })
    (hE : PassesOwn (model PySem.Challenge.pw_rh0073_01 w) A env E := by passes_own) :
    wpAny (model PySem.Challenge.pw_rh0073_01 w) A (exec (.While test body [] pos) env) Q E s := by
  refine While_inv (WJ b e m₀ news) (n₀ := e.toNat) F N ⟨0, 0, 1, t1, t2, rfl, rfl, rfl, (Int.pow_zero _).symm, rfl⟩ ?_ hE
  rintro n m₁ news₁ h₁ tk₁ F₁ N₁ ⟨k, kk, p, t1, t2, rfl, hk, hkk, hp, rfl⟩
  exact turn n k kk p t1 t2 h₁ tk₁ hk hkk hp F₁ N₁
theorem mulOkD {b p : Int} {mo : Int} (h : (if p < 0 then -p else p) < 2 ^ mo.toNat) (hmb : mo ≤ 10000) (hbb : Builtin.Int.intBits b ≤ 20000) : IntMulOk p b := by
  refine IntMulOk.of_le (m := mo.toNat) (n := 20000) (intBits_le_iff.mpr ?_) hbb (by omega)
  have : ((2 ^ mo.toNat : Nat) : Int) = 2 ^ mo.toNat := by simp
  split at h <;> omega
theorem pow2Sz {mo : Int} (h : mo ≤ 10000) : (Builtin.Int.intBits 2 : Int) * mo ≤ 2 ^ 27 := by
  have : Builtin.Int.intBits 2 = 2 := by decide +kernel
  rw [this]
  omega
local macro_rules | `(tactic| walk_at "binaryOp Mult int int") => `(tactic| (with_reducible refine mul_int ?_ (mulOkD (by assumption) (by assumption) (by assumption))))
local macro_rules | `(tactic| walk_at "binaryOp Pow int int") => `(tactic| (with_reducible refine pow_int (by omega) (pow2Sz (by assumption)) ?_))
theorem absLt {p : Int} {mo : Int} : (if p < 0 then -p else p) < 2 ^ mo.toNat ↔ p.natAbs < 2 ^ mo.toNat := by
  have : ((2 ^ mo.toNat : Nat) : Int) = 2 ^ mo.toNat := by simp
  constructor
  · intro h; split at h <;> omega
  · intro h; split <;> omega
theorem due_hi {b e mo : Int} (h : ([1, -1].any fun x => x == b) = false) (h2 : ¬ e < 0) (h3 : b ≠ 0) (h4 : ¬ (b ^ e.toNat).natAbs < 2 ^ mo.toNat) : dueO b e mo = .res := by unfold dueO; rw [if_neg (any0 h), if_neg h2, if_neg h3, if_neg h4]
theorem due_lo {b e mo : Int} (h : ([1, -1].any fun x => x == b) = false) (h2 : ¬ e < 0) (h3 : b ≠ 0) (h4 : (b ^ e.toNat).natAbs < 2 ^ mo.toNat) : dueO b e mo = .int (b ^ e.toNat) := by unfold dueO; rw [if_neg (any0 h), if_neg h2, if_neg h3, if_pos h4]
theorem due_6 {b e mo kk p : Int} {n k : Nat} (hk : n + k = e.toNat) (hkk : kk = (k : Int)) (hp : p = b ^ k) (h : ([1, -1].any fun x => x == b) = false) (h2 : ¬ e < 0) (h3 : b ≠ 0) (h4 : ¬ (if p < 0 then -p else p) < 2 ^ mo.toNat) : dueO b e mo = .res := by
  refine due_hi h h2 h3 fun hlt => h4 (absLt.mpr ?_)
  rw [hp, Int.natAbs_pow]
  rw [Int.natAbs_pow] at hlt
  exact Nat.lt_of_le_of_lt (Nat.pow_le_pow_right (by omega) (by omega)) hlt
theorem due_7 {b e mo kk p : Int} {n k : Nat} (hk : n + k = e.toNat) (hkk : kk = (k : Int)) (hp : p = b ^ k) (h : ([1, -1].any fun x => x == b) = false) (h2 : ¬ e < 0) (h3 : b ≠ 0) (hge : ¬ kk < e) (h4 : (if p < 0 then -p else p) < 2 ^ mo.toNat) : dueO b e mo = .int p := by
  have e1 : k = e.toNat := by omega
  subst hp e1
  exact due_lo h h2 h3 (absLt.mp h4)
theorem wj_step {b e : Int} {m₀ : Str → Option Value} {nx₀ : List (Addr × Obj)} {n k : Nat} {kk p : Int} {u1 u2 : Tok} {h₀ h' : Heap} {L : Addr} {s : Shared} {tk : Nat} {mm : Str → Option Value} (hk : n + k = e.toNat) (hkk : kk = (k : Int)) (hp : p = b ^ k) (hlt : kk < e)
    (hmm : mm = fun (y : Str) => if y = ("times" : Str) then some (.int (kk + 1) u2) else if y = ("product" : Str) then some (.int (p * b) u1) else m₀ y) (F : Fr h₀ L h' mm) (N : News h₀ L h' nx₀) : WhileStep h₀ L s (WJ b e m₀ nx₀) n .next { s with heap := h', toks := tk } :=
  WhileStep.intro (n' := n - 1) F N (by omega) ⟨k + 1, kk + 1, p * b, u1, u2, rfl, by omega, by omega, by rw [hp, Int.pow_succ], hmm⟩
theorem wj_fun {m₀ : Str → Option Value} {a1 a2 a3 a4 : Option Value} : (fun (y : Str) => if y = ("times" : Str) then a1 else if y = ("product" : Str) then a2 else if y = ("times" : Str) then a3 else if y = ("product" : Str) then a4 else m₀ y) = fun (y : Str) => if y = ("times" : Str) then a1 else if y = ("product" : Str) then a2 else m₀ y := by
  funext y
  split
  · rfl
  · split
    · rfl
    · rfl
theorem pre3 {a b c d e : List Str} (h1 : a <+: b) (h2 : b <+: c) (h3 : c <+: d) (h4 : d <+: e) : a <+: e := h1.trans (h2.trans (h3.trans h4))
theorem dueS {b e mo : Int} {tb te tm : Tok}
  (B : Below A₀ base outer h₀) (F : Fr h₀ L s.heap m) (X : (hd.heap_1 w.params).In h₀) (N : News h₀ L s.heap (pre ++ tab)) (hA : Apart pre tab) (S : SymR w tab x texts fs)
  (Tp : Top hd.view_1 (looseW hd.view_1 []) mean mg mb' h₀) (hk : cs.kind = .function) (hlen : texts.length ≤ 50000) (hlenF : fs.length ≤ 50000) (hd' : dp + 20 < recursionLimit) (hu : un + 200 < cLine)
  (hm0 : 0 ≤ mo) (hmb : mo ≤ 10000) (hbb : Builtin.Int.intBits b ≤ 20000)
  (hret : ∀ v d ext h' tk' tab' texts' fs', SymR w tab' x texts' fs' → texts <+: texts' → fs <+: fs' → texts'.length ≤ texts.length + 4 → fs'.length ≤ fs.length + 2 → OutD texts' fs' b (dueO b e mo) d → DatIn ext v d → Apart pre ext → Apart (ext ++ pre) tab' →
    Fr h₀ L h' m → News h₀ L h' (ext ++ (pre ++ tab')) → Q v { s with heap := h', toks := tk' }) :
  wpAny (model PySem.Challenge.pw_rh0073_01 w) (ktrTop dp un gd cn cs L a ccd cl outer) (call (.ref 319) [.ref x, .int b tb, .int e te, .int mo tm]) Q E s := by
  refine wpAny_call ?_
  k_dflt cell_enter
  k_steps
  · refine hret _ _ [_, _, _, _] _ _ _ _ _ (by assumption) (List.IsPrefix.trans (by assumption) (by assumption)) (by assumption) (by omega) (by omega) (by rw [due_1 (by assumption) (by assumption)]; exact rfl) (.int _ _) ?_ ?_ (by assumption) (by assumption); walk_at "due fresh"; walk_at "due apart"
  · refine hret _ _ [_, _, _, _] _ _ _ _ _ (by assumption) (List.IsPrefix.trans (by assumption) (by assumption)) (by assumption) (by omega) (by omega) (by rw [due_2 (by assumption) (by assumption)]; exact rfl) (.int _ _) ?_ ?_ (by assumption) (by assumption); walk_at "due fresh"; walk_at "due apart"
  · (with_reducible rename News _ _ _ _ => nE)
    refine hret _ _ [_, _, _, _, _, _, _, _, _, _, _] _ _ _ _ _ (by assumption) (pre3 (by assumption) (by assumption) (by assumption) (by assumption)) (List.IsPrefix.trans (by assumption) (by assumption)) (by omega) (by omega) (by rw [due_3 (by assumption) (by assumption)]; exact ⟨_, ⟨_, _, _, by assumption, pre_at (by assumption) (by assumption), by assumption, rfl⟩, rfl⟩) ?_ ?_ ?_ (by assumption) nE
    · walk_at "dat in"
    · walk_at "due fresh"
    · walk_at "due apart"
  · refine hret _ _ [_, _, _, _] _ _ _ _ _ (by assumption) (List.IsPrefix.trans (by assumption) (by assumption)) (by assumption) (by omega) (by omega) (by rw [due_4 (by assumption) (by assumption) (by assumption) (by assumption)]; exact rfl) (.int _ _) ?_ ?_ (by assumption) (by assumption); walk_at "due fresh"; walk_at "due apart"
  · refine hret _ _ [_, _, _, _] _ _ _ _ _ (by assumption) (List.IsPrefix.trans (by assumption) (by assumption)) (by assumption) (by omega) (by omega) (by rw [due_5 (by assumption) (by assumption) (by assumption) (by assumption)]; exact rfl) (.int _ _) ?_ ?_ (by assumption) (by assumption); walk_at "due fresh"; walk_at "due apart"
  · (with_reducible rename News _ _ _ _ => nE)
    (with_reducible rename Fr _ _ _ _ => fE)
    unfold Stop
    refine while_due (b := b) (e := e) fE nE ?_
    intro n k kk p t1 t2 h1 tk1 hk hkk hp F1 N1
    clear fE nE
    k_steps
    · exact wj_step hk hkk hp (by assumption) wj_fun (by assumption) (by assumption)
    · (with_reducible rename News _ _ _ _ => nE)
      refine hret _ _ [_, _, _, _, _, _, _] _ _ _ _ _ (by assumption) (List.IsPrefix.trans (by assumption) (by assumption)) (by assumption) (by omega) (by omega) (by rw [due_6 hk hkk hp (by assumption) (by assumption) (by assumption) (by assumption)]; exact ⟨_, ⟨_, _, _, by assumption, pre_at (by assumption) (by assumption), by assumption, rfl⟩, rfl⟩) ?_ ?_ ?_ (by assumption) nE
      · walk_at "dat in"
      · walk_at "due fresh"
      · walk_at "due apart"
    · refine hret _ _ [_, _, _, _] _ _ _ _ _ (by assumption) (List.IsPrefix.trans (by assumption) (by assumption)) (by assumption) (by omega) (by omega) (by rw [due_7 hk hkk hp (by assumption) (by assumption) (by assumption) (by assumption) (by assumption)]; exact rfl) (.int _ _) ?_ ?_ (by assumption) (by assumption); walk_at "due fresh"; walk_at "due apart"
    · (with_reducible rename News _ _ _ _ => nE)
      refine hret _ _ [_, _, _, _, _, _, _] _ _ _ _ _ (by assumption) (List.IsPrefix.trans (by assumption) (by assumption)) (by assumption) (by omega) (by omega) (by rw [due_6 hk hkk hp (by assumption) (by assumption) (by assumption) (by assumption)]; exact ⟨_, ⟨_, _, _, by assumption, pre_at (by assumption) (by assumption), by assumption, rfl⟩, rfl⟩) ?_ ?_ ?_ (by assumption) nE
      · walk_at "dat in"
      · walk_at "due fresh"
      · walk_at "due apart"
end
end Mine
end

section
open PySem PySem.W PySem.Spec PySem.Calls PyProof.Rows PyProof.V
namespace Mine
theorem bitsLe {v : Int} {k : Nat} : Builtin.Int.intBits v ≤ k ↔ v.natAbs < 2 ^ k := intBits_le_iff
theorem bitsLeI {v mo : Int} (h : 0 ≤ mo) : (Builtin.Int.intBits v : Int) ≤ mo ↔ v.natAbs < 2 ^ mo.toNat := by
  rw [← bitsLe]; omega
theorem bitsLow {v : Int} {k : Nat} (h : Builtin.Int.intBits v = k + 1) : 2 ^ k ≤ v.natAbs := by
  rcases Nat.lt_or_ge v.natAbs (2 ^ k) with q | q
  · have := bitsLe.mpr q
    omega
  · exact q
theorem bits_one : Builtin.Int.intBits 1 = 1 := by decide +kernel
theorem bits_mone : Builtin.Int.intBits (-1) = 1 := by decide +kernel
theorem bits_zero : Builtin.Int.intBits 0 = 0 := by decide +kernel
theorem pow_low {b : Int} {k n : Nat} (h : Builtin.Int.intBits b = k + 1) : 2 ^ (k * n) ≤ (b ^ n).natAbs := by
  rw [Int.natAbs_pow, Nat.pow_mul]
  exact Nat.pow_le_pow_left (bitsLow h) n
theorem pow_high {b : Int} {k n : Nat} (h : b.natAbs < 2 ^ k) (hn : n ≠ 0) : (b ^ n).natAbs < 2 ^ (k * n) := by
  rw [Int.natAbs_pow, Nat.pow_mul]
  exact Nat.pow_lt_pow_left h hn
/-- the cases of one question -/
inductive Case (b e mo : Int) : Prop
  | int (v : Int) (h1 : dueO b e mo = .int v) (h2 : powO b e mo = .int v) (h3 : afO b e mo = .int v)
  | res (h1 : dueO b e mo = .res) (h2 : powO b e mo = .res) (h3 : afO b e mo = .res)
  | typ (h1 : dueO b e mo = .typ) (h2 : powO b e mo = .typ) (h3 : afO b e mo = .typ)
  | big (h1 : dueO b e mo = .res) (h2 : powO b e mo = .int (b ^ e.toNat)) (h3 : afO b e mo = .res) (b0 : b ≠ 0) (b1 : b ≠ 1) (b2 : b ≠ -1) (e0 : 0 ≤ e) (em : e < mo)
      (lo : 2 ^ mo.toNat ≤ (b ^ e.toNat).natAbs) (hi : (b ^ e.toNat).natAbs < 2 ^ (2 * mo).toNat)
theorem due_1v {b e mo : Int} (h : b = 1 ∨ b = -1) : dueO b e mo = .int (if e.fmod 2 = 0 then 1 else b) := by unfold dueO; rw [if_pos h]
theorem due_t {b e mo : Int} (h : ¬ (b = 1 ∨ b = -1)) (h2 : e < 0) : dueO b e mo = .typ := by unfold dueO; rw [if_neg h, if_pos h2]
theorem due_z {b e mo : Int} (h : ¬ (b = 1 ∨ b = -1)) (h2 : ¬ e < 0) (h3 : b = 0) : dueO b e mo = .int (if e = 0 then 1 else 0) := by unfold dueO; rw [if_neg h, if_neg h2, if_pos h3]
theorem due_p {b e mo : Int} (h : ¬ (b = 1 ∨ b = -1)) (h2 : ¬ e < 0) (h3 : b ≠ 0) (h4 : (b ^ e.toNat).natAbs < 2 ^ mo.toNat) : dueO b e mo = .int (b ^ e.toNat) := by unfold dueO; rw [if_neg h, if_neg h2, if_neg h3, if_pos h4]
theorem due_n {b e mo : Int} (h : ¬ (b = 1 ∨ b = -1)) (h2 : ¬ e < 0) (h3 : b ≠ 0) (h4 : ¬ (b ^ e.toNat).natAbs < 2 ^ mo.toNat) : dueO b e mo = .res := by unfold dueO; rw [if_neg h, if_neg h2, if_neg h3, if_neg h4]
theorem case_all {b e mo : Int} (hm : 1 ≤ mo) : Case b e mo := by
  by_cases h1 : b = 1
  · have p := powO_1 (e := e) (mb := mo) h1
    refine .int 1 ?_ p (afO_int p (by rw [bits_one]; exact hm))
    rw [due_1v (.inl h1), h1]
    split <;> rfl
  by_cases h2 : b = -1
  · by_cases h3 : e.fmod 2 = 0
    · have p := powO_2 (mb := mo) h1 h2 h3
      exact .int 1 (by rw [due_1v (.inr h2), if_pos h3]) p (afO_int p (by rw [bits_one]; exact hm))
    · have p := powO_3 (mb := mo) h1 h2 h3
      exact .int (-1) (by rw [due_1v (.inr h2), if_neg h3, h2]) p (afO_int p (by rw [bits_mone]; exact hm))
  have h12 : ¬ (b = 1 ∨ b = -1) := by omega
  by_cases h3 : e < 0
  · have p := powO_4 (mb := mo) h1 h2 h3
    exact .typ (due_t h12 h3) p (by unfold afO; rw [p])
  by_cases h4 : e = 0
  · have p := powO_5 (mb := mo) h1 h2 h3 h4
    refine .int 1 ?_ p (afO_int p (by rw [bits_one]; exact hm))
    by_cases h5 : b = 0
    · rw [due_z h12 h3 h5, if_pos h4]
    · have e0 : b ^ e.toNat = 1 := by rw [h4]; exact Int.pow_zero b
      rw [due_p h12 h3 h5 (by rw [e0]; exact Nat.one_lt_two_pow (by omega)), e0]
  by_cases h5 : b = 0
  · have p := powO_6 (mb := mo) h1 h2 h3 h4 h5
    exact .int 0 (by rw [due_z h12 h3 h5, if_neg h4]) p (afO_int p (by rw [bits_zero]; exact Int.le_trans (by decide) hm))
  have hb2 := bits2 h5 h1 h2
  obtain ⟨k, hk⟩ : ∃ k, Builtin.Int.intBits b = k + 1 := ⟨_, (Nat.succ_pred_eq_of_pos (Nat.lt_of_lt_of_le (by decide) hb2)).symm⟩
  obtain ⟨n, rfl⟩ : ∃ n : Nat, e = n := ⟨e.toNat, by omega⟩
  obtain ⟨M, rfl⟩ : ∃ M : Nat, mo = M := ⟨mo.toNat, by omega⟩
  have hq : ((Builtin.Int.intBits b : Int) - 1) * (n : Int) = ((k * n : Nat) : Int) := by
    rw [hk]
    have : (((k + 1 : Nat) : Int) - 1) = (k : Int) := by omega
    rw [this, Int.natCast_mul]
  by_cases h6 : (M : Int) ≤ ((Builtin.Int.intBits b : Int) - 1) * (n : Int)
  · have p := powO_7 h1 h2 h3 h4 h5 h6
    refine .res (due_n h12 h3 h5 ?_) p (afO_res p)
    rw [hq] at h6
    have h7 : 2 ^ M ≤ 2 ^ (k * n) := Nat.pow_le_pow_right (by decide) (by omega)
    have h8 := Nat.le_trans h7 (pow_low (n := n) hk)
    simp only [Int.toNat_natCast]
    omega
  · have p := powO_8 h1 h2 h3 h4 h5 h6
    by_cases h7 : (b ^ (n : Int).toNat).natAbs < 2 ^ (M : Int).toNat
    · exact .int _ (due_p h12 h3 h5 h7) p (afO_int p ((bitsLeI (by omega)).mpr h7))
    · refine .big (due_n h12 h3 h5 h7) p (afO_big p ?_) h5 h1 h2 (by omega) ?_ (by omega) ?_
      · have := mt (bitsLeI (v := b ^ (n : Int).toNat) (mo := (M : Int)) (by omega)).mp h7
        omega
      · rw [hq] at h6
        have : 1 * n ≤ k * n := Nat.mul_le_mul_right n (by omega)
        omega
      · rw [hq] at h6
        have h8 : (b ^ n).natAbs < 2 ^ ((k + 1) * n) := pow_high (bitsLe.mp (Nat.le_of_eq hk)) (by omega)
        have h9 : (k + 1) * n ≤ 2 * M := by
          have : 1 * n ≤ k * n := Nat.mul_le_mul_right n (by omega)
          rw [Nat.add_mul]
          omega
        have h10 : 2 ^ ((k + 1) * n) ≤ 2 ^ (2 * M) := Nat.pow_le_pow_right (by decide) h9
        have e1 : (2 * (M : Int)).toNat = 2 * M := by omega
        rw [e1, Int.toNat_natCast]
        exact Nat.lt_of_lt_of_le h8 h10
theorem mone_pow : ∀ n : Nat, (-1 : Int) ^ n = if n % 2 = 0 then 1 else -1
  | 0 => rfl
  | n + 1 => by
    rw [Int.pow_succ, mone_pow n]
    rcases Nat.mod_two_eq_zero_or_one n with h | h
    · rw [if_pos h, if_neg (by omega)]; rfl
    · rw [if_neg (by omega), if_pos (by omega)]; rfl
theorem one_powI (n : Nat) : (1 : Int) ^ n = 1 := Int.one_pow
theorem wideP {b e : Int} {k : Nat} (he : 0 ≤ e) (hb : b.natAbs < 2 ^ k) (hk : k * e.toNat ≤ 10000) : powO b e 10000 = .int (b ^ e.toNat) := by
  by_cases h1 : b = 1
  · rw [powO_1 h1, h1, one_powI]
  by_cases h2 : b = -1
  · obtain ⟨n, rfl⟩ : ∃ n : Nat, e = n := ⟨e.toNat, by omega⟩
    have hf : (n : Int).fmod 2 = ((n % 2 : Nat) : Int) := by rw [Int.fmod_eq_emod_of_nonneg _ (by decide)]; rfl
    rw [h2, Int.toNat_natCast, mone_pow]
    by_cases h3 : n % 2 = 0
    · rw [if_pos h3]; exact powO_2 (by decide) rfl (by rw [hf, h3]; rfl)
    · rw [if_neg h3]; exact powO_3 (by decide) rfl (by rw [hf]; omega)
  by_cases h4 : e = 0
  · rw [powO_5 h1 h2 (by omega) h4, h4]; exact congrArg Out.int (Int.pow_zero b).symm
  by_cases h5 : b = 0
  · rw [powO_6 h1 h2 (by omega) h4 h5, h5]
    congr 1
    obtain ⟨n, hn⟩ : ∃ n, e.toNat = n + 1 := ⟨e.toNat - 1, by omega⟩
    rw [hn, Int.pow_succ, Int.mul_zero]
  · refine powO_8 h1 h2 (by omega) h4 h5 ?_
    have hb2 := bits2 h5 h1 h2
    have hbk := bitsLe.mpr hb
    obtain ⟨n, rfl⟩ : ∃ n : Nat, e = n := ⟨e.toNat, by omega⟩
    have h6 : ((Builtin.Int.intBits b : Int) - 1) * (n : Int) ≤ ((k : Int) - 1) * (n : Int) := Int.mul_le_mul_of_nonneg_right (by omega) (by omega)
    have h8 : ((k : Int) - 1) * (n : Int) = (k : Int) * (n : Int) - (n : Int) := by rw [Int.sub_mul, Int.one_mul]
    rw [h8] at h6
    simp only [Int.toNat_natCast] at hk
    have h7 : (k : Int) * (n : Int) = ((k * n : Nat) : Int) := (Int.natCast_mul k n).symm
    rw [h7] at h6
    omega
theorem law_add {b e f : Int} (h1 : 0 ≤ e) (h2 : 0 ≤ f) : b ^ (e + f).toNat = b ^ e.toNat * b ^ f.toNat := by
  rw [Int.toNat_add h1 h2, Int.pow_add]
theorem law_mul {b e f : Int} (h1 : 0 ≤ e) (h2 : 0 ≤ f) : (b ^ e.toNat) ^ f.toNat = b ^ (e * f).toNat := by
  rw [Int.toNat_mul h1 h2, Int.pow_mul]
theorem law_prod {b o : Int} {n : Nat} : (b * o) ^ n = b ^ n * o ^ n := Int.mul_pow ..
end Mine
end

section
open PySem PySem.W PySem.Spec PySem.Calls PyProof.Rows PyProof.V
set_option maxRecDepth 100000
set_option maxHeartbeats 8000000
namespace Mine
theorem OutD.mono {texts texts' : List Str} {fs fs' : List (Int × Int)} {b : Int} {o : Out} {d : Dat} (h : OutD texts fs b o d) (h1 : texts <+: texts') (h2 : fs <+: fs') : OutD texts' fs' b o d := by
  cases o with
  | int v => exact h
  | res => obtain ⟨f, h, e⟩ := h; exact ⟨f, h.mono h1 h2, e⟩
  | typ => obtain ⟨f, h, e⟩ := h; exact ⟨f, h.mono h1 h2, e⟩
theorem OutD.uniq {texts : List Str} {fs : List (Int × Int)} {b : Int} {o : Out} {d d' : Dat} (nt : texts.Nodup) (nf : fs.Nodup) (h : OutD texts fs b o d) (h' : OutD texts fs b o d') : d = d' := by
  cases o with
  | int v => exact Eq.trans h h'.symm
  | res => obtain ⟨f, h, rfl⟩ := h; obtain ⟨f', h', rfl⟩ := h'; rw [h.uniq nt nf h']
  | typ => obtain ⟨f, h, rfl⟩ := h; obtain ⟨f', h', rfl⟩ := h'; rw [h.uniq nt nf h']
theorem SymR.nodup {w : World} {tab : List (Addr × Obj)} {x : Addr} {texts : List Str} {fs : List (Int × Int)} (S : SymR w tab x texts fs) : texts.Nodup ∧ fs.Nodup := by
  obtain ⟨dx, T, AD, FL, FD, i1, i2, i3, i4, k1, k2, k3, k4, tvs, nT, oAD, kvs, fvs, nF, oFD, tups, r⟩ := S
  exact ⟨r.2.2.2.2.2.2.2.2.1, r.2.2.2.2.2.2.2.2.2⟩
theorem ok_s : PyData.strOk ("s" : Str) = true := by decide +kernel
theorem ok_a : PyData.strOk ("a" : Str) = true := by decide +kernel
theorem ok_i : PyData.strOk ("i" : Str) = true := by decide +kernel
theorem OutD.ok {texts : List Str} {fs : List (Int × Int)} {b : Int} {o : Out} {d : Dat} (h : OutD texts fs b o d) : kqdOk 6 d = true := by
  cases o with
  | int v => obtain rfl : d = .int v := h; rfl
  | res => obtain ⟨f, ⟨k, ka, kw, _, _, _, rfl⟩, rfl⟩ := h; simp only [kqdOk, ballD, List.all_cons, List.all_nil, ok_s, ok_a, ok_i, Bool.and_self]
  | typ => obtain ⟨f, ⟨k, ka, kw, _, _, _, rfl⟩, rfl⟩ := h; simp only [kqdOk, ballD, List.all_cons, List.all_nil, ok_s, ok_a, ok_i, Bool.and_self]
theorem Apart.front {ext pre tab : List (Addr × Obj)} (h : Apart (ext ++ pre) tab) : Apart pre tab := ⟨fun p hp => h.at_ p (List.mem_append_right _ hp)⟩
section
variable {prog : Program} {w : World} {A : Around} {E : Value → Shared → Prop} {s : Shared} {h₀ : Heap} {L : Addr} {news n₁ n₂ : List (Addr × Obj)} {v u : Value} {d e : Dat} {Q : Value → Shared → Prop}
theorem kqd_ok_up : ∀ {n : Nat} {d : Dat}, kqdOk n d = true → ∀ {k : Nat}, n ≤ k → kqdOk k d = true := by
  intro n
  induction n with
  | zero => intro d h k _; cases d <;> cases k <;> simp_all [kqdOk]
  | succ n ih =>
    intro d h k hk
    obtain ⟨k, rfl⟩ : ∃ j, k = j + 1 := ⟨k - 1, by omega⟩
    cases d with
    | tuple ds => simp only [kqdOk, List.all_eq_true] at h ⊢; exact fun x hx => ih (h x hx) (by omega)
    | list ds => simp only [kqdOk, List.all_eq_true] at h ⊢; exact fun x hx => ih (h x hx) (by omega)
    | _ => simp_all [kqdOk]
open Classical in
theorem dat_ne (N : News h₀ L s.heap news) (Da : DatIn n₁ v d) (sa : ∀ p ∈ n₁, p ∈ news) (Db : DatIn n₂ u e) (sb : ∀ p ∈ n₂, p ∈ news)
    (ha : kqdOk 8 d = true) (hb : kqdOk 8 e = true) (hu : A.units + 64 < cLine) (h : Q (.bool (!decide (d = e))) s) : wpAny (model prog w) A (compareOp .NotEq v u) Q E s := by
  obtain ⟨as, ra⟩ := kqd_in N 8 (Da.mono sa) ha
  obtain ⟨bs, rb⟩ := kqd_in N 8 (Db.mono sb) hb
  have la := kqd_lay 8 d ha
  have lb := kqd_lay 8 e hb
  have eq : PyData.eqv (kqdP d) (kqdP e) = decide (d = e) := by
    have q := kqd_eqv 8 d e 8 ha hb
    by_cases hq : d = e
    · rw [decide_eq_true hq]; exact q.mpr hq
    · rw [decide_eq_false hq]; exact Bool.eq_false_iff.mpr fun x => hq (q.mp x)
  refine ne_dataH ra rb ?_ ?_ hu (by rw [eq]; exact h)
  · unfold SeqAt.shaped; rw [la.1, Bool.true_and]; exact decide_eq_true (Nat.le_trans la.2 (by decide))
  · unfold SeqAt.shaped; rw [lb.1, Bool.true_and]; exact decide_eq_true (Nat.le_trans lb.2 (by decide))
open Classical in
theorem dat_same (N : News h₀ L s.heap news) (Da : DatIn n₁ v d) (sa : ∀ p ∈ n₁, p ∈ news) (Db : DatIn n₂ u d) (sb : ∀ p ∈ n₂, p ∈ news)
    (ha : kqdOk 8 d = true) (hu : A.units + 64 < cLine) (h : Q (.bool false) s) : wpAny (model prog w) A (compareOp .NotEq v u) Q E s :=
  dat_ne N Da sa Db sb ha ha hu (by rw [decide_eq_true rfl]; exact h)
open Classical in
theorem dat_apart (N : News h₀ L s.heap news) (Da : DatIn n₁ v d) (sa : ∀ p ∈ n₁, p ∈ news) (Db : DatIn n₂ u e) (sb : ∀ p ∈ n₂, p ∈ news)
    (ha : kqdOk 8 d = true) (hb : kqdOk 8 e = true) (hne : d ≠ e) (hu : A.units + 64 < cLine) (h : Q (.bool true) s) : wpAny (model prog w) A (compareOp .NotEq v u) Q E s :=
  dat_ne N Da sa Db sb ha hb hu (by rw [decide_eq_false hne]; exact h)
end

/-- the two ways in which a question has no int -/
def NoInt (b e mo : Int) : Prop := powO b e mo = afO b e mo ∧ ∀ v, powO b e mo ≠ .int v
structure BigV (b e mo v : Int) : Prop where
  p : powO b e mo = .int v
  b0 : b ≠ 0
  b1 : b ≠ 1
  b2 : b ≠ -1
  e0 : 0 ≤ e
  em : e < mo
  lo : ¬ (if v < 0 then -v else v) < 2 ^ mo.toNat
  hi : (if v < 0 then -v else v) < 2 ^ (2 * mo).toNat
  v : v = b ^ e.toNat
theorem dueErr {texts : List Str} {fs : List (Int × Int)} {b : Int} {o : Out} {d : Dat} {ext : List (Addr × Obj)} {v : Value} (ho : o = .res ∨ o = .typ) (h : OutD texts fs b o d) (hd : DatIn ext v d) : ∃ r ds, v = .ref r ∧ d = .tuple ds := by
  have : ∃ ds, d = .tuple ds := by
    rcases ho with rfl | rfl
    · obtain ⟨f, _, rfl⟩ := h; exact ⟨_, rfl⟩
    · obtain ⟨f, _, rfl⟩ := h; exact ⟨_, rfl⟩
  obtain ⟨ds, rfl⟩ := this
  cases hd with
  | tuple h1 h2 => exact ⟨_, _, rfl, rfl⟩
section
variable {w : World} {mean : ExcName → Option Value} {mg mb' : Str → Option Value} {dp un : Nat} {gd : Option (List Code)} {cn : Str} {cs : Scope} {a : Addr} {ccd : Value} {cl : List (Str × Addr)} {outer : List Env} {A₀ : Around} {base h₀ : Heap} {L : Addr} {m : Str → Option Value} {s : Shared} {Q E : Value → Shared → Prop}
variable {tab news pre : List (Addr × Obj)} {x : Addr} {texts : List Str} {fs : List (Int × Int)}
theorem frontN {h : Heap} {ext pre tab : List (Addr × Obj)} (N : News h₀ L h (ext ++ (pre ++ tab))) : News h₀ L h (pre ++ (ext ++ tab)) := fun p hp => N p (by
  simp only [List.mem_append] at hp ⊢
  rcases hp with h | h | h <;> simp only [h, true_or, or_true])
theorem dropN {h : Heap} {ext pre : List (Addr × Obj)} (N : News h₀ L h (ext ++ pre)) : News h₀ L h pre := fun p hp => N p (List.mem_append_right _ hp)
theorem dueL {b e mo : Int} {tb te tm : Tok}
  (B : Below A₀ base outer h₀) (F : Fr h₀ L s.heap m) (X : (hd.heap_1 w.params).In h₀) (N : News h₀ L s.heap news) (G : TailF tab news pre) (S : SymR w tab x texts fs)
  (Tp : Top hd.view_1 (looseW hd.view_1 []) mean mg mb' h₀) (hk : cs.kind = .function) (hlen : texts.length ≤ 50000) (hlenF : fs.length ≤ 50000) (hd' : dp + 20 < recursionLimit) (hu : un + 200 < cLine)
  (hm0 : 1 ≤ mo) (hmb : mo ≤ 10000) (hbb : Builtin.Int.intBits b ≤ 20000)
  (hall :
    (∀ v tv h' tk' tab' texts' fs', powO b e mo = .int v → SymR w tab' x texts' fs' → texts'.length ≤ texts.length + 4 → fs'.length ≤ fs.length + 2 → OutD texts' fs' b (afO b e mo) (.int v) → Apart pre tab' → Fr h₀ L h' m → News h₀ L h' (pre ++ tab') → Q (.int v tv) { s with heap := h', toks := tk' }) ∧
    (∀ r ds ext h' tk' tab' texts' fs', NoInt b e mo → SymR w tab' x texts' fs' → texts'.length ≤ texts.length + 4 → fs'.length ≤ fs.length + 2 → OutD texts' fs' b (afO b e mo) (.tuple ds) → DatIn ext (.ref r) (.tuple ds) → Apart pre ext → Apart pre tab' → Apart ext tab' → Fr h₀ L h' m → News h₀ L h' (pre ++ (ext ++ tab')) → Q (.ref r) { s with heap := h', toks := tk' }) ∧
    (∀ v r ds ext h' tk' tab' texts' fs', BigV b e mo v → SymR w tab' x texts' fs' → texts'.length ≤ texts.length + 4 → fs'.length ≤ fs.length + 2 → OutD texts' fs' b (afO b e mo) (.tuple ds) → DatIn ext (.ref r) (.tuple ds) → Apart pre ext → Apart pre tab' → Apart ext tab' → Fr h₀ L h' m → News h₀ L h' (pre ++ (ext ++ tab')) → Q (.ref r) { s with heap := h', toks := tk' })) :
  wpAny (model PySem.Challenge.pw_rh0073_01 w) (ktrTop dp un gd cn cs L a ccd cl outer) (call (.ref 319) [.ref x, .int b tb, .int e te, .int mo tm]) Q E s := by
  obtain ⟨rfl, hA⟩ := G.split
  refine dueS B F X N hA S Tp hk hlen hlenF hd' hu (by omega) hmb hbb ?_
  intro v d ext h' tk' tab' texts' fs' S' p1 p2 l1 l2 ho hd hx hA' F' N'
  have hA1 : Apart pre tab' := hA'.front
  have hA2 : Apart ext tab' := ⟨fun p hp => hA'.at_ p (List.mem_append_left _ hp)⟩
  cases case_all (b := b) (e := e) hm0 with
  | int i h1 h2 h3 =>
    rw [h1] at ho
    obtain rfl : d = .int i := ho
    cases hd with
    | int _ t => exact hall.1 i t h' tk' tab' texts' fs' h2 S' l1 l2 (by rw [h3]; exact rfl) hA1 F' (dropN N')
  | res h1 h2 h3 =>
    obtain ⟨r, ds, rfl, rfl⟩ := dueErr (.inl h1) ho hd
    exact hall.2.1 r ds ext h' tk' tab' texts' fs' ⟨h2.trans h3.symm, fun v q => by rw [h2] at q; cases q⟩ S' l1 l2 (by rw [h3, ← h1]; exact ho) hd hx hA1 hA2 F' (frontN N')
  | typ h1 h2 h3 =>
    obtain ⟨r, ds, rfl, rfl⟩ := dueErr (.inr h1) ho hd
    exact hall.2.1 r ds ext h' tk' tab' texts' fs' ⟨h2.trans h3.symm, fun v q => by rw [h2] at q; cases q⟩ S' l1 l2 (by rw [h3, ← h1]; exact ho) hd hx hA1 hA2 F' (frontN N')
  | big h1 h2 h3 b0 b1 b2 e0 em lo hi =>
    obtain ⟨r, ds, rfl, rfl⟩ := dueErr (.inl h1) ho hd
    exact hall.2.2 _ r ds ext h' tk' tab' texts' fs' ⟨h2, b0, b1, b2, e0, em, fun q => by have := absLt.mp q; omega, absLt.mpr hi, rfl⟩ S' l1 l2 (by rw [h3, ← h1]; exact ho) hd hx hA1 hA2 F' (frontN N')

/-- what the law's own answer is: a value of the ledger, in three ways -/
inductive DueC (b e mo : Int) : Value → Dat → Prop
  | int (i : Int) (t : Tok) (h : powO b e mo = .int i) : DueC b e mo (.int i t) (.int i)
  | err (r : Addr) (ds : List Dat) (h : NoInt b e mo) : DueC b e mo (.ref r) (.tuple ds)
  | big (r : Addr) (ds : List Dat) (v : Int) (h : BigV b e mo v) : DueC b e mo (.ref r) (.tuple ds)
theorem dueG {b e mo : Int} {tb te tm : Tok}
  (B : Below A₀ base outer h₀) (F : Fr h₀ L s.heap m) (X : (hd.heap_1 w.params).In h₀) (N : News h₀ L s.heap news) (G : TailF tab news pre) (S : SymR w tab x texts fs)
  (Tp : Top hd.view_1 (looseW hd.view_1 []) mean mg mb' h₀) (hk : cs.kind = .function) (hlen : texts.length ≤ 50000) (hlenF : fs.length ≤ 50000) (hd' : dp + 20 < recursionLimit) (hu : un + 200 < cLine)
  (hm0 : 1 ≤ mo) (hmb : mo ≤ 10000) (hbb : Builtin.Int.intBits b ≤ 20000)
  (hret : ∀ v d ext h' tk' tab' texts' fs', DueC b e mo v d → SymR w tab' x texts' fs' → texts'.length ≤ texts.length + 4 → fs'.length ≤ fs.length + 2 → OutD texts' fs' b (afO b e mo) d → DatIn ext v d → Apart pre ext → Apart pre tab' → Apart ext tab' → Fr h₀ L h' m → News h₀ L h' (pre ++ (ext ++ tab')) → Q v { s with heap := h', toks := tk' }) :
  wpAny (model PySem.Challenge.pw_rh0073_01 w) (ktrTop dp un gd cn cs L a ccd cl outer) (call (.ref 319) [.ref x, .int b tb, .int e te, .int mo tm]) Q E s :=
  dueL B F X N G S Tp hk hlen hlenF hd' hu hm0 hmb hbb
    ⟨fun v tv h' tk' tab' texts' fs' hp S' l1 l2 HD A' F' N' => hret _ _ [] h' tk' tab' texts' fs' (.int v tv hp) S' l1 l2 HD (.int _ _) ⟨fun _ _ _ h => nomatch h⟩ A' ⟨fun _ h => nomatch h⟩ F' N',
     fun r ds ext h' tk' tab' texts' fs' hp S' l1 l2 HD hd hx A' a' F' N' => hret _ _ ext h' tk' tab' texts' fs' (.err r ds hp) S' l1 l2 HD hd hx A' a' F' N',
     fun v r ds ext h' tk' tab' texts' fs' hp S' l1 l2 HD hd hx A' a' F' N' => hret _ _ ext h' tk' tab' texts' fs' (.big r ds v hp) S' l1 l2 HD hd hx A' a' F' N'⟩
theorem told_ok {mo e : Int} {d : Dat} (h : kqdOk 6 d = true) : kqdOk 8 (.tuple [.list [.int mo, .int e], d]) = true := by
  have := kqd_ok_up h (k := 7) (by decide)
  simp only [kqdOk, List.all_cons, List.all_nil, this, Bool.and_self]
/-- the comparison of the told pair with the due one -/
theorem cmp_told {A : Around} {D D1 r : Addr} {mo e : Int} {t1 t2 : Tok} {v : Value} {d : Dat} {b : Int} {o : Out} {ext ext9 front : List (Addr × Obj)}
    (N : News h₀ L s.heap ((D, tupO [.ref D1, v]) :: (D1, W.listOf #[.int mo t1, .int e t2] 0) :: (ext9 ++ front))) (h9 : DatIn ext9 (.ref r) (.tuple [.list [.int mo, .int e], d])) (h8 : DatIn ext v d)
    (hs : ∀ p ∈ ext, p ∈ front) (ho : OutD texts fs b o d) (hu : A.units + 64 < cLine) (h : News h₀ L s.heap front → Q (.bool false) s) : wpAny (model PySem.Challenge.pw_rh0073_01 w) A (compareOp .NotEq (.ref r) (.ref D)) Q E s := by
  refine dat_same N h9 (fun p hp => .tail _ (.tail _ (List.mem_append_left _ hp))) (n₂ := (D, tupO [.ref D1, v]) :: (D1, W.listOf #[.int mo t1, .int e t2] 0) :: (ext9 ++ front)) ?_ (fun p hp => hp) (told_ok ho.ok) hu (h (fun p hp => N p (.tail _ (.tail _ (List.mem_append_right _ hp)))))
  exact .tuple (.head _) (.cons (.list (vs := [.int mo t1, .int e t2]) (.tail _ (.head _)) (.cons (.int _ _) (.cons (.int _ _) .nil))) (.cons (h8.mono fun p hp => .tail _ (.tail _ (List.mem_append_right _ (hs p hp)))) .nil))
/-- the comparison of the bare answer with the due one -/
theorem cmp_bare {A : Around} {u v : Value} {d : Dat} {b : Int} {o : Out} {ext ext9 front : List (Addr × Obj)}
    (N : News h₀ L s.heap (ext9 ++ front)) (h9 : DatIn ext9 u d) (h8 : DatIn ext v d)
    (hs : ∀ p ∈ ext, p ∈ front) (ho : OutD texts fs b o d) (hu : A.units + 64 < cLine) (h : News h₀ L s.heap front → Q (.bool false) s) : wpAny (model PySem.Challenge.pw_rh0073_01 w) A (compareOp .NotEq u v) Q E s :=
  dat_same N h9 (fun _ hp => List.mem_append_left _ hp) h8 (fun p hp => List.mem_append_right _ (hs p hp)) (kqd_ok_up ho.ok (by decide)) hu (h (dropN N))
theorem cmp_big {A : Around} {i : Int} {t : Tok} {v : Value} {ds : List Dat} {b : Int} {o : Out} {ext : List (Addr × Obj)}
    (N : News h₀ L s.heap news) (h8 : DatIn ext v (.tuple ds)) (hs : ∀ p ∈ ext, p ∈ news) (ho : OutD texts fs b o (.tuple ds)) (hu : A.units + 64 < cLine) (h : Q (.bool true) s) :
    wpAny (model PySem.Challenge.pw_rh0073_01 w) A (compareOp .NotEq (.int i t) v) Q E s :=
  dat_apart N (.int (news := []) i t) (fun _ hp => nomatch hp) h8 hs rfl (kqd_ok_up ho.ok (by decide)) (fun q => by cases q) hu h

theorem toldL {word : Str} {b e mo : Int} {tw tb te tm : Tok} {d₀ : Dat} (hw : word = "^" ∨ word = "**")
  (B : Below A₀ base [] h₀) (F : Fr h₀ L s.heap m) (X : (hd.heap_1 w.params).In h₀) (N : News h₀ L s.heap news) (G : TailF tab news pre) (S : SymR w tab x texts fs)
  (Tp : Top hd.view_1 (looseW hd.view_1 []) mean mg mb' h₀) (XB : (hd.heap_1 w.params).In base) (TB : Top hd.view_1 (looseW hd.view_1 []) mean mg mb' base) (hk : cs.kind = .function) (hlen : texts.length ≤ 50000) (hlenF : fs.length ≤ 50000) (hd' : dp + 20 < recursionLimit) (hu : un + 200 < cLine)
  (hmb : mo ≤ 10000) (hbb : Builtin.Int.intBits b ≤ 20000) (HD : OutD texts fs b (afO b e mo) d₀)
  (hret : ∀ r ext h' tk' tab' texts' fs', SymR w tab' x texts' fs' → texts'.length ≤ texts.length + 3 → fs'.length ≤ fs.length + 2 → OutD texts' fs' b (afO b e mo) d₀ → DatIn ext (.ref r) (.tuple [.list [.int mo, .int e], d₀]) → Apart pre tab' →
    Fr h₀ L h' m → News h₀ L h' (ext ++ (pre ++ tab')) → Q (.ref r) { s with heap := h', toks := tk' }) :
  wpAny (model PySem.Challenge.pw_rh0073_01 w) (ktrTop dp un gd cn cs L a ccd [] []) (call (.ref 326) [.ref x, .str word tw, .int b tb, .int e te, .int mo tm]) Q E s := by
  obtain ⟨rfl, hA⟩ := G.split
  refine toldS hw B F X N hA S Tp XB TB hk hlen hlenF hd' hu hmb hbb ?_
  intro r d ext h' tk' tab' texts' fs' S' p1 p2 l1 l2 ho hd hA' F' N'
  have HD' := HD.mono p1 p2
  obtain rfl := ho.uniq S'.nodup.1 S'.nodup.2 HD'
  exact hret r ext h' tk' tab' texts' fs' S' l1 l2 HD' hd hA'.front F' N'

theorem bareI {b e mo v : Int} {tb te tm : Tok} (hp : powO b e mo = .int v)
  (B : Below A₀ base [] h₀) (F : Fr h₀ L s.heap m) (X : (hd.heap_1 w.params).In h₀) (N : News h₀ L s.heap news) (G : TailF tab news pre) (S : SymR w tab x texts fs)
  (Tp : Top hd.view_1 (looseW hd.view_1 []) mean mg mb' h₀) (XB : (hd.heap_1 w.params).In base) (TB : Top hd.view_1 (looseW hd.view_1 []) mean mg mb' base) (hk : cs.kind = .function) (hlen : texts.length ≤ 50000) (hlenF : fs.length ≤ 50000) (hd' : dp + 20 < recursionLimit) (hu : un + 200 < cLine)
  (hmb : mo ≤ 10000) (hbb : Builtin.Int.intBits b ≤ 20000)
  (hret : ∀ tv h' tk', Fr h₀ L h' m → News h₀ L h' news → Q (.int v tv) { s with heap := h', toks := tk' }) :
  wpAny (model PySem.Challenge.pw_rh0073_01 w) (ktrTop dp un gd cn cs L a ccd [] []) (call (.ref 333) [.ref x, .int b tb, .int e te, .int mo tm]) Q E s := by
  obtain ⟨rfl, hA⟩ := G.split
  refine bareS B F X N hA S Tp XB TB hk hlen hlenF hd' hu hmb hbb ?_ ?_
  · intro v' tv h' tk' hp' F' N'
    rw [hp] at hp'
    cases hp'
    exact hret tv h' tk' F' N'
  · intro r d ext h' tk' tab' texts' fs' hn
    exact absurd hp (hn v)

theorem bareE {b e mo : Int} {tb te tm : Tok} {d₀ : Dat} (hp : NoInt b e mo)
  (B : Below A₀ base [] h₀) (F : Fr h₀ L s.heap m) (X : (hd.heap_1 w.params).In h₀) (N : News h₀ L s.heap news) (G : TailF tab news pre) (S : SymR w tab x texts fs)
  (Tp : Top hd.view_1 (looseW hd.view_1 []) mean mg mb' h₀) (XB : (hd.heap_1 w.params).In base) (TB : Top hd.view_1 (looseW hd.view_1 []) mean mg mb' base) (hk : cs.kind = .function) (hlen : texts.length ≤ 50000) (hlenF : fs.length ≤ 50000) (hd' : dp + 20 < recursionLimit) (hu : un + 200 < cLine)
  (hmb : mo ≤ 10000) (hbb : Builtin.Int.intBits b ≤ 20000) (HD : OutD texts fs b (afO b e mo) d₀)
  (hret : ∀ r ext h' tk' tab' texts' fs', SymR w tab' x texts' fs' → texts'.length ≤ texts.length + 2 → fs'.length ≤ fs.length + 1 → OutD texts' fs' b (afO b e mo) d₀ → DatIn ext (.ref r) d₀ → Apart pre tab' →
    Fr h₀ L h' m → News h₀ L h' (ext ++ (pre ++ tab')) → Q (.ref r) { s with heap := h', toks := tk' }) :
  wpAny (model PySem.Challenge.pw_rh0073_01 w) (ktrTop dp un gd cn cs L a ccd [] []) (call (.ref 333) [.ref x, .int b tb, .int e te, .int mo tm]) Q E s := by
  obtain ⟨rfl, hA⟩ := G.split
  refine bareS B F X N hA S Tp XB TB hk hlen hlenF hd' hu hmb hbb ?_ ?_
  · intro v' tv h' tk' hp' F' N'
    exact absurd hp' (hp.2 v')
  · intro r d ext h' tk' tab' texts' fs' _ S' p1 p2 l1 l2 ho hd hA' F' N'
    have HD' := HD.mono p1 p2
    rw [hp.1] at ho
    obtain rfl := ho.uniq S'.nodup.1 S'.nodup.2 HD'
    exact hret r ext h' tk' tab' texts' fs' S' l1 l2 HD' hd hA'.front F' N'
end

section
variable {prog : Program} {w : World} {A : Around} {E : Value → Shared → Prop} {s : Shared} {env : Env} {h₀ : Heap} {x : Str} {body : List Stmt} {Q : Flow → Shared → Prop}
theorem UnrPost.weak {L I : Addr} {it : Obj} {s₁ s₂ : Shared} {f : Flow} {r1 r2 : (Str → Option Value) → List (Addr × Obj) → Prop} (h : ∀ m n, (∀ p ∈ n, p.1 ≠ I) → r1 m n → r2 m n) (p : UnrPost h₀ L s₁ I it r1 Q f s₂) : UnrPost h₀ L s₁ I it r2 Q f s₂ := by
  have fin : UnrEnd h₀ L s₁ I it r1 s₂ → UnrEnd h₀ L s₁ I it r2 s₂ := by
    rintro ⟨h', tk, m', n', e, F, N, off, r⟩
    exact ⟨h', tk, m', n', e, F, N, off, h _ _ off r⟩
  cases f with
  | ret v => exact p
  | brk => exact p
  | next => exact fin p
  | cont => exact fin p
/-- the law's loop over the two words -/
theorem iter_words {ax : Addr} {lo : Obj} {t1 t2 : Tok} {n : Nat} {m₀ : Str → Option Value} {news : List (Addr × Obj)} (J : Nat → List (Addr × Obj) → Prop)
    (hh : A.handled = none) (F : Fr h₀ env.locals s.heap m₀) (N : News h₀ env.locals s.heap news) (hm : (ax, lo) ∈ news) (hc : lo.cls = .type "list") (hd : lo.data = .seq #[.str "^" t1, .str "**" t2] n) (hj : J 0 news)
    (turn : ∀ i (word : Str) t I it nx h tk, i < 2 → (word = "^" ∨ word = "**") → J i nx → (∀ p ∈ nx, p.1 ≠ I) → Fr h₀ env.locals h (fun y => if y = x then some (.str word t) else m₀ y) → News h₀ env.locals h ((I, it) :: nx) →
      wpAny (model prog w) A (execs body env) (UnrPost h₀ env.locals { s with heap := h, toks := tk } I it (fun m' n' => (∀ y, y ≠ x → m' y = m₀ y) ∧ (ax, lo) ∈ n' ∧ J (i + 1) n') Q) E { s with heap := h, toks := tk })
    (done : ∀ mx nx h tk, J 2 nx → Fr h₀ env.locals h (fun y => if y = x then mx else m₀ y) → News h₀ env.locals h nx → Q .next { s with heap := h, toks := tk }) :
    wpAny (model prog w) A (pyIter (.ref ax)) (fun it s₂ => LoopAtV prog w A h₀ env x body Q E it s₂) E s := by
  have fun_eq : ∀ {m : Str → Option Value} (v : Option Value), (∀ y, y ≠ x → m y = m₀ y) → (fun y => if y = x then v else m y) = fun y => if y = x then v else m₀ y := by
    intro m v h
    funext y
    by_cases hy : y = x
    · rw [if_pos hy, if_pos hy]
    · rw [if_neg hy, if_neg hy, h y hy]
  refine iter_listUnr (vs := [.str "^" t1, .str "**" t2]) hh F N hm hc hd fun I hI => ?_
  refine ListRest.succ fun it h tk _ F1 N1 => ?_
  refine wpAny_mono (turn 0 "^" t1 I it news h tk (by decide) (.inl rfl) hj (fun p hp => Nat.ne_of_lt (hI p hp)) F1 N1) (fun f s₂ p => UnrPost.weak ?_ p) fun _ _ e => e
  rintro m1 n1 off1 ⟨hm1, hx1, hj1⟩
  refine ⟨hx1, ListRest.succ fun it2 h2 tk2 _ F2 N2 => ?_⟩
  rw [fun_eq _ hm1] at F2
  refine wpAny_mono (turn 1 "**" t2 I it2 n1 h2 tk2 (by decide) (.inr rfl) hj1 off1 F2 N2) (fun f s₂ p => UnrPost.weak ?_ p) fun _ _ e => e
  rintro m2 n2 off2 ⟨hm2, hx2, hj2⟩
  refine ⟨hx2, ListRest.zero fun h3 tk3 F3 N3 => done (m2 x) n2 h3 tk3 hj2 ?_ N3⟩
  have e : m2 = fun y => if y = x then m2 x else m₀ y := by
    funext y
    by_cases hy : y = x
    · rw [if_pos hy, hy]
    · rw [if_neg hy, hm2 y hy]
  rw [← e]
  exact F3
end
/-- what holds between the turns of the law's loop -/
def JT (w : World) (front ext : List (Addr × Obj)) (x : Addr) (b e mo : Int) (d : Dat) (i : Nat) (nx : List (Addr × Obj)) : Prop :=
  ∃ tab texts fs, nx = front ++ (ext ++ tab) ∧ SymR w tab x texts fs ∧ texts.length ≤ 90 + 3 * i ∧ fs.length ≤ 90 + 3 * i ∧ Apart front tab ∧ Apart ext tab ∧ OutD texts fs b (afO b e mo) d
theorem jt_start {w : World} {W P sl x : Addr} {oW oP oS : Obj} {ext tab : List (Addr × Obj)} {texts : List Str} {fs : List (Int × Int)} {b e mo : Int} {d : Dat} (S : SymR w tab x texts fs) (l : texts.length ≤ 90) (lf : fs.length ≤ 90)
    (A9 : Apart [(P, oP), (sl, oS)] tab) (a8 : Apart ext tab) (lW : @LT.lt Nat _ P W ∧ @LT.lt Nat _ sl W ∧ AllLt W (ext ++ tab)) (o : OutD texts fs b (afO b e mo) d) :
    JT w [(W, oW), (P, oP), (sl, oS)] ext x b e mo d 0 ((W, oW) :: (P, oP) :: (sl, oS) :: (ext ++ tab)) :=
  ⟨tab, texts, fs, rfl, S, l, lf, Apart.cons1 (fun q hq => Nat.ne_of_lt (of_allLt lW.2.2 q (List.mem_append_right _ hq))) A9, a8, o⟩
theorem told_end {w : World} {W P sl x I L : Addr} {oW oP oS it : Obj} {ext tab tab' : List (Addr × Obj)} {texts : List Str} {fs : List (Int × Int)} {b e mo : Int} {d : Dat} {i : Nat} {h₀ h' : Heap} {s₁ : Shared} {m₀ : Str → Option Value} {y : Str} {v : Option Value} {tk : Nat}
    (hoff : ∀ p ∈ (W, oW) :: (P, oP) :: (sl, oS) :: (ext ++ tab), p.1 ≠ I) (F : Fr h₀ L h' (fun z => if z = y then v else m₀ z)) (N : News h₀ L h' ((I, it) :: (W, oW) :: (P, oP) :: (sl, oS) :: (ext ++ tab')))
    (A : Apart ((I, it) :: (W, oW) :: (P, oP) :: (sl, oS) :: ext) tab') (S : SymR w tab' x texts fs) (l : texts.length ≤ 90 + 3 * (i + 1)) (lf : fs.length ≤ 90 + 3 * (i + 1)) (o : OutD texts fs b (afO b e mo) d) :
    UnrEnd h₀ L s₁ I it (fun m' n' => (∀ z, z ≠ y → m' z = m₀ z) ∧ (W, oW) ∈ n' ∧ JT w [(W, oW), (P, oP), (sl, oS)] ext x b e mo d (i + 1) n') { s₁ with heap := h', toks := tk } := by
  refine ⟨h', tk, _, _, rfl, F, N, fun p hp => ?_, fun z hz => if_neg hz, .head _, tab', texts, fs, rfl, S, l, lf, ⟨fun p hp => A.at_ p ?_⟩, ⟨fun p hp => A.at_ p (.tail _ (.tail _ (.tail _ (.tail _ hp))))⟩, o⟩
  · simp only [List.mem_cons, List.mem_append] at hp
    rcases hp with rfl | rfl | rfl | h | h
    · exact hoff _ (.head _)
    · exact hoff _ (.tail _ (.head _))
    · exact hoff _ (.tail _ (.tail _ (.head _)))
    · exact hoff _ (.tail _ (.tail _ (.tail _ (List.mem_append_left _ h))))
    · exact A.at_ (I, it) (.head _) p h
  · simp only [List.mem_cons, List.not_mem_nil, or_false] at hp
    rcases hp with rfl | rfl | rfl <;> simp only [List.mem_cons, true_or, or_true]
theorem turn_apart {W P sl I : Addr} {oW oP oS it : Obj} {ext tab : List (Addr × Obj)} (hoff : ∀ p ∈ (W, oW) :: (P, oP) :: (sl, oS) :: (ext ++ tab), p.1 ≠ I) (A : Apart [(W, oW), (P, oP), (sl, oS)] tab) : Apart [(I, it), (W, oW), (P, oP), (sl, oS)] tab :=
  Apart.cons1 (fun q hq => hoff q (.tail _ (.tail _ (.tail _ (List.mem_append_right _ hq))))) A
/-- a power that the wide limit allows -/
def WideOk (b e : Int) : Prop := ∃ k : Nat, b.natAbs < 2 ^ k ∧ 0 ≤ e ∧ k * e.toNat ≤ 10000 ∧ k ≤ 20000
theorem bd30 {b : Int} (h1 : -(10 ^ 30) < b) (h2 : b < 10 ^ 30) : b.natAbs < 2 ^ 100 := by
  have : (2 : Nat) ^ 100 = 1267650600228229401496703205376 := by decide
  rw [this]
  omega
theorem wok1 {b e : Int} (h1 : -(10 ^ 30) < b) (h2 : b < 10 ^ 30) (he : 0 ≤ e) (h : e ≤ 16) : WideOk b e := ⟨100, bd30 h1 h2, he, by omega, by decide⟩
theorem wok2 {b e f : Int} (h1 : -(10 ^ 30) < b) (h2 : b < 10 ^ 30) (he : 0 ≤ e) (he' : e < 9) (hf : 0 ≤ f) (hf' : f < 9) : WideOk b (e * f) := by
  refine ⟨100, bd30 h1 h2, Int.mul_nonneg he hf, ?_, by decide⟩
  rw [Int.toNat_mul he hf]
  have : e.toNat * f.toNat ≤ 8 * 8 := Nat.mul_le_mul (by omega) (by omega)
  omega
theorem powBd {b e : Int} {k j : Nat} (hb : b.natAbs < 2 ^ k) (he : e.toNat ≤ j) : (b ^ e.toNat).natAbs < 2 ^ (k * j + 1) := by
  rcases Nat.eq_zero_or_pos e.toNat with h | h
  · rw [h, Int.pow_zero]
    exact Nat.one_lt_two_pow (by omega)
  · refine Nat.lt_of_lt_of_le (pow_high hb (by omega)) (Nat.pow_le_pow_right (by decide) ?_)
    exact Nat.le_succ_of_le (Nat.mul_le_mul_left k he)
theorem wok3 {b e f : Int} (h1 : -(10 ^ 30) < b) (h2 : b < 10 ^ 30) (he' : e < 9) (hf : 0 ≤ f) (hf' : f < 9) : WideOk (b ^ e.toNat) f :=
  ⟨100 * 8 + 1, powBd (bd30 h1 h2) (by omega), hf, by omega, by decide⟩
theorem mulBd {b o : Int} {k j : Nat} (hb : b.natAbs < 2 ^ k) (ho : o.natAbs < 2 ^ j) : (b * o).natAbs < 2 ^ (k + j) := by
  rw [Int.natAbs_mul, Nat.pow_add]
  exact Nat.mul_lt_mul'' hb ho
theorem wok4 {b o e : Int} (h1 : -(10 ^ 30) < b) (h2 : b < 10 ^ 30) (h3 : -(10 ^ 30) < o) (h4 : o < 10 ^ 30) (he : 0 ≤ e) (he' : e < 9) : WideOk (b * o) e :=
  ⟨100 + 100, mulBd (bd30 h1 h2) (bd30 h3 h4), he, by omega, by decide⟩
theorem mulW1 {b o : Int} (h1 : -(10 ^ 30) < b) (h2 : b < 10 ^ 30) (h3 : -(10 ^ 30) < o) (h4 : o < 10 ^ 30) : IntMulOk b o :=
  IntMulOk.of_le (bitsLe.mpr (bd30 h1 h2)) (bitsLe.mpr (bd30 h3 h4)) (by decide)
theorem mulW2 {b o e f : Int} (h1 : -(10 ^ 30) < b) (h2 : b < 10 ^ 30) (h3 : -(10 ^ 30) < o) (h4 : o < 10 ^ 30) (he : e < 9) (hf : f < 9) : IntMulOk (b ^ e.toNat) (o ^ f.toNat) :=
  IntMulOk.of_le (bitsLe.mpr (powBd (j := 8) (bd30 h1 h2) (by omega))) (bitsLe.mpr (powBd (j := 8) (bd30 h3 h4) (by omega))) (by decide)
theorem powSzB {b e : Int} (hb : Builtin.Int.intBits b ≤ 20000) (h0 : 0 ≤ e) (he : e < 100) : (Builtin.Int.intBits b : Int) * e ≤ 2 ^ 27 := by
  obtain ⟨n, rfl⟩ : ∃ n : Nat, e = n := ⟨e.toNat, by omega⟩
  have : Builtin.Int.intBits b * n ≤ 20000 * 100 := Nat.mul_le_mul hb (by omega)
  rw [← Int.natCast_mul]
  omega
section
variable {prog : Program} {w : World} {A : Around} {E : Value → Shared → Prop} {s : Shared} {i j : Int} {t u : Tok} {Q : Value → Shared → Prop}
theorem ne_same (e : i = j) (h : Q (.bool false) s) : wpAny (model prog w) A (compareOp .NotEq (.int i t) (.int j u)) Q E s := ne_int (by rw [e, bne_self_eq_false]; exact h)
theorem eq_same (e : i = j) (h : Q (.bool true) s) : wpAny (model prog w) A (compareOp .Eq (.int i t) (.int j u)) Q E s := eq_int (by rw [e, beq_self_eq_true]; exact h)
end
section
variable {w : World} {mean : ExcName → Option Value} {mg mb' : Str → Option Value} {dp un : Nat} {gd : Option (List Code)} {cn : Str} {cs : Scope} {a : Addr} {ccd : Value} {cl : List (Str × Addr)} {outer : List Env} {A₀ : Around} {base h₀ : Heap} {L : Addr} {m : Str → Option Value} {s : Shared} {Q E : Value → Shared → Prop}
variable {tab news pre : List (Addr × Obj)} {x : Addr} {texts : List Str} {fs : List (Int × Int)}
theorem bareW {b e : Int} {tb te tm : Tok} (hw : WideOk b e)
  (B : Below A₀ base [] h₀) (F : Fr h₀ L s.heap m) (X : (hd.heap_1 w.params).In h₀) (N : News h₀ L s.heap news) (G : TailF tab news pre) (S : SymR w tab x texts fs)
  (Tp : Top hd.view_1 (looseW hd.view_1 []) mean mg mb' h₀) (XB : (hd.heap_1 w.params).In base) (TB : Top hd.view_1 (looseW hd.view_1 []) mean mg mb' base) (hk : cs.kind = .function) (hlen : texts.length ≤ 50000) (hlenF : fs.length ≤ 50000) (hd' : dp + 20 < recursionLimit) (hu : un + 200 < cLine)
  (hret : ∀ tv h' tk', Fr h₀ L h' m → News h₀ L h' news → Q (.int (b ^ e.toNat) tv) { s with heap := h', toks := tk' }) :
  wpAny (model PySem.Challenge.pw_rh0073_01 w) (ktrTop dp un gd cn cs L a ccd [] []) (call (.ref 333) [.ref x, .int b tb, .int e te, .int 10000 tm]) Q E s := by
  obtain ⟨k, h1, h2, h3, h4⟩ := hw
  exact bareI (wideP h2 h1 h3) B F X N G S Tp XB TB hk hlen hlenF hd' hu (by decide) (Nat.le_trans (bitsLe.mpr h1) h4) hret
end
section
variable {w : World} {A : Around} {E : Value → Shared → Prop} {s : Shared} {h₀ : Heap} {L r : Addr} {ext news : List (Addr × Obj)} {ds : List Dat} {Q : Value → Shared → Prop}
theorem isi_dat (N : News h₀ L s.heap news) (hd : DatIn ext (.ref r) (.tuple ds)) (hs : ∀ p ∈ ext, p ∈ news) (h : Q (.bool false) { s with toks := s.toks + 1 }) : wpAny (model PySem.Challenge.pw_rh0073_01 w) A (call (.builtin "isinstance") [.ref r, .type "int"]) Q E s := by
  cases hd with
  | tuple hm _ => exact IsiPair.isTuple_int ⟨_, (N _ (hs _ hm)).1, rfl, _, rfl⟩ (fun _ _ e => e) h
end
end Mine
end

section
open PySem PySem.W PySem.Spec PySem.Calls PyProof.Rows PyProof.V
set_option maxRecDepth 100000
set_option maxHeartbeats 8000000
namespace Mine
theorem bb30 {b : Int} (h1 : -(10 ^ 30) < b) (h2 : b < 10 ^ 30) : Builtin.Int.intBits b ≤ 20000 := by
  refine Nat.le_trans (bitsLe (k := 100).mpr ?_) (by decide)
  have : (2 : Nat) ^ 100 = 1267650600228229401496703205376 := by decide
  rw [this]
  omega
local macro_rules | `(tactic| walk_at "call ref") => `(tactic| refine Stop.out ?_)
local macro_rules | `(tactic| k_all) => `(tactic| first | with_reducible assumption | exact allLt_ne (by with_reducible assumption) | (refine ne_app ?_ ?_ <;> (first | with_reducible assumption | exact Apart.addr (by with_reducible assumption) (by repeat (first | exact List.Mem.head _ | apply List.Mem.tail)))) | exact Apart.addr (by with_reducible assumption) (by repeat (first | exact List.Mem.head _ | apply List.Mem.tail)))
local macro_rules | `(tactic| ktr_units) => `(tactic| (have hcL9 := cLine_is; (try simp only [units_in1, units_deeper, units_under_make, Around.mark_units, units_caller] at *); (try dsimp only [ktrTop] at *); omega))
local macro_rules | `(tactic| ktr_unf) => `(tactic| first | with_reducible assumption | exact Apart.addr (by with_reducible assumption) (by repeat (first | exact List.Mem.head _ | apply List.Mem.tail)) | exact lt_tab0 (by with_reducible assumption) | exact lt_tab1 (by with_reducible assumption) | exact lt_tab2 (by with_reducible assumption) | exact lt_tab3 (by with_reducible assumption) | exact lt_tab4 (by with_reducible assumption) | exact lt_tab5 (by with_reducible assumption) | exact lt_tab6 (by with_reducible assumption) | exact lt_tab7 (by with_reducible assumption) | exact lt_tab8 (by with_reducible assumption))
local macro_rules | `(tactic| ktr_rel) => `(tactic| first | exact TailF.app (by assumption) | exact TailF.nil | (refine' TailF.cons ?a ?b; (case a => ktr_unf); (case b => ktr_rel)))
local macro_rules | `(tactic| walk_at "call ref") => `(tactic| (k_here; (with_reducible show wpAny _ _ (call (Value.ref 154) _) _ _ _); k_dflt (refine' symbolsS ?B ?F ?X ?N ?T ?hk ?hd ?hu ?_; (case B => k_asm); (case F => k_asm); (case X => k_asm); (case N => k_asm); (case T => k_asm); (case hk => first | rfl | assumption); (case hd => ktr_room); (case hu => ktr_units); k_whole); intro x9 h9 tk9 tab9 tx9 fs9 S9 l9 lf9 A9 F9 N9; (try simp only [List.cons_append, List.nil_append] at N9); (try k_sweep); (try dsimp only); (try k_fold)))
local macro_rules | `(tactic| walk_at "call ref") => `(tactic| (k_here; (with_reducible show wpAny _ _ (call (Value.ref 298) _) _ _ _); k_dflt (refine' drawU ?B ?F ?X ?N ?U ?S ?T ?hk ?hI ?hns ?hPs ?hpy ?h1 ?h2 ?h2' ?h3 ?hl ?hd ?hu ?_; (case B => k_asm); (case F => k_asm); (case X => k_asm); (case N => k_asm); (case T => k_asm); (case U => k_updF); (case S => k_mem); (case hk => first | rfl | assumption); (case hI => assumption); (case hns => omega); (case hPs => first | assumption | omega); (case hpy => decide +kernel); (case h1 => omega); (case h2 => omega); (case h2' => omega); (case h3 => omega); (case hl => first | omega | decide +kernel); (case hd => ktr_room); (case hu => ktr_units); k_whole; intro d9 t9 h9 tk9 b1 b2 b3 u1 u2 u3 q1 q2 q3 q4 q5 q6 F9 N9; (try dsimp only at N9); (try k_sweep); (try dsimp only); (try k_fold))))
local macro_rules | `(tactic| walk_at "call ref") => `(tactic| (k_here; (with_reducible show wpAny _ _ (call (Value.ref 305) _) _ _ _); k_dflt (refine' baseU ?B ?F ?X ?N ?U ?S ?T ?hk ?hI ?hns ?hPs ?h1 ?h2 ?h2' ?h3 ?hd ?hu ?_; (case B => k_asm); (case F => k_asm); (case X => k_asm); (case N => k_asm); (case T => k_asm); (case U => k_updF); (case S => k_mem); (case hk => first | rfl | assumption); (case hI => assumption); (case hns => omega); (case hPs => first | assumption | omega); (case h1 => omega); (case h2 => omega); (case h2' => omega); (case h3 => omega); (case hd => ktr_room); (case hu => ktr_units); k_whole; intro d9 t9 h9 tk9 b1 b2 b3 u1 u2 u3 q1 q2 q3 q4 q5 q6 F9 N9; (have bb9 := bb30 q1 q2); (try dsimp only at N9); (try k_sweep); (try dsimp only); (try k_fold))))
local macro_rules | `(tactic| walk_at "call ref") => `(tactic| (k_here; (with_reducible show wpAny _ _ (call (Value.ref 312) _) _ _ _); k_dflt (refine' expoU ?B ?F ?X ?N ?U ?S ?T ?hk ?hI ?hns ?hPs ?h1 ?h2 ?h2' ?h3 ?hd ?hu ?_; (case B => k_asm); (case F => k_asm); (case X => k_asm); (case N => k_asm); (case T => k_asm); (case U => k_updF); (case S => k_mem); (case hk => first | rfl | assumption); (case hI => assumption); (case hns => omega); (case hPs => first | assumption | omega); (case h1 => omega); (case h2 => omega); (case h2' => omega); (case h3 => omega); (case hd => ktr_room); (case hu => ktr_units); k_whole; intro d9 t9 h9 tk9 b1 b2 b3 u1 u2 u3 q1 q2 q3 q4 q5 q6 F9 N9; (try dsimp only at N9); (try k_sweep); (try dsimp only); (try k_fold))))
local macro_rules | `(tactic| walk_at "call ref") => `(tactic| (k_here; (with_reducible show wpAny _ _ (call (Value.ref 319) _) _ _ _); k_dflt (refine' dueG ?B ?F ?X ?N ?G ?S ?T ?hk ?hlen ?hlenF ?hd ?hu ?hm0 ?hmb ?hbb ?_; (case B => k_asm); (case F => k_asm); (case X => k_asm); (case N => k_asm); (case S => with_reducible assumption); (case G => ktr_rel); (case T => k_asm); (case hk => first | rfl | assumption); (case hlen => omega); (case hlenF => omega); (case hd => ktr_room); (case hu => ktr_units); (case hm0 => omega); (case hmb => omega); (case hbb => assumption); k_whole); intro v8 dd8 ext8 h9 tk9 tab9 tx9 fs9 c8 S9 l9 lf9 D9 d8 e8 A9 a8 F9 N9; (try simp only [List.cons_append, List.nil_append] at N9); (try k_sweep); (try dsimp only); (try k_fold)))
local macro_rules | `(tactic| walk_at "call ref") => `(tactic| (k_here; (with_reducible show wpAny _ _ (call (Value.ref 326) _) _ _ _); k_dflt (refine' toldL ?hw ?B ?F ?X ?N ?G ?S ?T ?XB ?TB ?hk ?hlen ?hlenF ?hd ?hu ?hmb ?hbb ?HD ?_; (case hw => assumption); (case B => k_asm); (case F => k_asm); (case X => k_asm); (case N => k_asm); (case S => with_reducible assumption); (case G => ktr_rel); (case T => k_asm); (case XB => k_asm); (case TB => k_asm); (case hk => first | rfl | assumption); (case hlen => omega); (case hlenF => omega); (case hd => ktr_room); (case hu => ktr_units); (case hmb => omega); (case hbb => assumption); (case HD => with_reducible assumption); k_whole); intro r9 ext9 h9 tk9 tab9 tx9 fs9 S9 l9 lf9 D9 d9 A9 F9 N9; (try simp only [List.cons_append, List.nil_append] at N9); (try simp only [List.cons_append, List.nil_append] at A9); (try k_sweep); (try dsimp only); (try k_fold)))
local macro_rules | `(tactic| walk_at "pyIter ref") => `(tactic| refine Stop.out ?_)
local macro_rules | `(tactic| walk_at "compareOp NotEq ref ref") => `(tactic| (k_here; (with_reducible show wpAny _ _ (compareOp CmpOp.NotEq (Value.ref _) (Value.ref _)) _ _ _); (with_reducible rename News _ _ _ _ => nC); k_dflt (refine' cmp_told nC ?h9 ?h8 ?hs ?ho ?hu ?_; (case h9 => assumption); (case h8 => assumption); (case hs => (intro p hp; simp only [List.mem_cons, List.mem_append, hp, true_or, or_true])); (case ho => with_reducible assumption); (case hu => ke_room); k_whole); clear nC; intro nC; (try dsimp only)))
local macro_rules | `(tactic| walk_at "call ref") => `(tactic| (k_here; (with_reducible show wpAny _ _ (call (Value.ref 333) _) _ _ _); k_dflt (refine' bareW ?hw ?B ?F ?X ?N ?G ?S ?T ?XB ?TB ?hk ?hlen ?hlenF ?hd ?hu ?_; (case hw => first | exact wok1 (by with_reducible assumption) (by with_reducible assumption) (by omega) (by omega) | exact wok2 (by with_reducible assumption) (by with_reducible assumption) (by omega) (by omega) (by omega) (by omega) | exact wok3 (by with_reducible assumption) (by with_reducible assumption) (by omega) (by omega) (by omega) | exact wok4 (by with_reducible assumption) (by with_reducible assumption) (by with_reducible assumption) (by with_reducible assumption) (by omega) (by omega)); (case B => k_asm); (case F => k_asm); (case X => k_asm); (case N => k_asm); (case S => with_reducible assumption); (case G => ktr_rel); (case T => k_asm); (case XB => k_asm); (case TB => k_asm); (case hk => first | rfl | assumption); (case hlen => omega); (case hlenF => omega); (case hd => ktr_room); (case hu => ktr_units); k_whole); intro tv9 h9 tk9 F9 N9; (try k_sweep); (try dsimp only); (try k_fold)))
local macro_rules | `(tactic| walk_at "call ref") => `(tactic| (k_here; (with_reducible show wpAny _ _ (call (Value.ref 333) _) _ _ _); k_dflt (refine' bareE ?hp ?B ?F ?X ?N ?G ?S ?T ?XB ?TB ?hk ?hlen ?hlenF ?hd ?hu ?hmb ?hbb ?HD ?_; (case hp => with_reducible assumption); (case B => k_asm); (case F => k_asm); (case X => k_asm); (case N => k_asm); (case S => with_reducible assumption); (case G => ktr_rel); (case T => k_asm); (case XB => k_asm); (case TB => k_asm); (case hk => first | rfl | assumption); (case hlen => omega); (case hlenF => omega); (case hd => ktr_room); (case hu => ktr_units); (case hmb => omega); (case hbb => with_reducible assumption); (case HD => with_reducible assumption); k_whole); intro r9 ext9 h9 tk9 tab9 tx9 fs9 S9 l9 lf9 D9 d9 A9 F9 N9; (try simp only [List.cons_append, List.nil_append] at N9); (try simp only [List.cons_append, List.nil_append] at A9); (have a9 := Apart.drop1 (Apart.drop1 (Apart.drop1 A9))); (have A8 := A9); (try k_sweep); (try dsimp only); (try k_fold)))
local macro_rules | `(tactic| walk_at "call ref") => `(tactic| (k_here; (with_reducible show wpAny _ _ (call (Value.ref 333) _) _ _ _); k_dflt (refine' bareI ?hp ?B ?F ?X ?N ?G ?S ?T ?XB ?TB ?hk ?hlen ?hlenF ?hd ?hu ?hmb ?hbb ?_; (case hp => with_reducible assumption); (case B => k_asm); (case F => k_asm); (case X => k_asm); (case N => k_asm); (case S => with_reducible assumption); (case G => ktr_rel); (case T => k_asm); (case XB => k_asm); (case TB => k_asm); (case hk => first | rfl | assumption); (case hlen => omega); (case hlenF => omega); (case hd => ktr_room); (case hu => ktr_units); (case hmb => omega); (case hbb => with_reducible assumption); k_whole); intro tv9 h9 tk9 F9 N9; (try k_sweep); (try dsimp only); (try k_fold)))
local macro_rules | `(tactic| walk_at "compareOp NotEq ref ref") => `(tactic| (k_here; (with_reducible show wpAny _ _ (compareOp CmpOp.NotEq (Value.ref _) (Value.ref _)) _ _ _); (with_reducible rename News _ _ _ _ => nC); k_dflt (refine' cmp_bare nC ?h9 ?h8 ?hs ?ho ?hu ?_; (case h9 => with_reducible assumption); (case h8 => assumption); (case hs => (intro p hp; simp only [List.mem_cons, List.mem_append, hp, true_or, or_true])); (case ho => with_reducible assumption); (case hu => ke_room); k_whole); clear nC; intro nC; (try dsimp only)))
local macro_rules | `(tactic| walk_at "compareOp NotEq int ref") => `(tactic| (k_here; (with_reducible show wpAny _ _ (compareOp CmpOp.NotEq (Value.int _ _) (Value.ref _)) _ _ _); (with_reducible rename News _ _ _ _ => nC); k_dflt (refine' cmp_big nC ?h8 ?hs ?ho ?hu ?_; (case h8 => with_reducible assumption); (case hs => (intro p hp; simp only [List.mem_cons, List.mem_append, hp, true_or, or_true])); (case ho => with_reducible assumption); (case hu => ke_room); k_whole); (try dsimp only)))
local macro_rules | `(tactic| walk_at "compareOp NotEq int int") => `(tactic| (k_here; (with_reducible show wpAny _ _ (compareOp CmpOp.NotEq (Value.int _ _) (Value.int _ _)) _ _ _); k_dflt (refine' ne_same ?e ?_; (case e => first | with_reducible rfl | with_reducible assumption | (with_reducible exact law_add (by omega) (by omega)) | (with_reducible exact law_mul (by omega) (by omega))); k_whole)))
local macro_rules | `(tactic| walk_at "compareOp Eq int int") => `(tactic| (k_here; (with_reducible show wpAny _ _ (compareOp CmpOp.Eq (Value.int _ _) (Value.int _ _)) _ _ _); k_dflt (refine' eq_same ?e ?_; (case e => with_reducible exact law_prod); k_whole)))
local macro_rules | `(tactic| walk_at "binaryOp Mult int int") => `(tactic| (with_reducible refine mul_int ?_ (by first | exact mulW1 (by with_reducible assumption) (by with_reducible assumption) (by with_reducible assumption) (by with_reducible assumption) | exact mulW2 (by with_reducible assumption) (by with_reducible assumption) (by with_reducible assumption) (by with_reducible assumption) (by omega) (by omega))))
local macro_rules | `(tactic| walk_at "binaryOp Pow int int") => `(tactic| first | (with_reducible refine pow_int (by omega) (pow2Sz (by omega)) ?_) | (with_reducible refine pow_int (by omega) (powSzB (by with_reducible assumption) (by omega) (by omega)) ?_))
local macro_rules | `(tactic| walk_at "call builtin:isinstance") => `(tactic| (k_here; (with_reducible show wpAny _ _ (call (Value.builtin "isinstance") [Value.ref _, Value.type "int"]) _ _ _); (with_reducible rename News _ _ _ _ => nC); k_dflt (refine' isi_dat nC ?d ?hs ?_; (case d => with_reducible assumption); (case hs => (intro p hp; simp only [List.mem_cons, List.mem_append, hp, true_or, or_true])); k_whole)))
theorem law1.tw7112966484014225468 : True := trivial
theorem law1.tw2508255044705368994 : True := trivial
theorem law1.tw3120620362338151402 : True := trivial
theorem law1.tw3173495202551505867 : True := trivial
theorem law1.tw12713330371560592491 : True := trivial
theorem law1.tw15633894604433687478 : True := trivial
theorem law1.tw1845526925469391846 : True := trivial
theorem law1.tw15379108146328812555 : True := trivial
theorem law1.tw6777133659325372311 : True := trivial
theorem law1.tw15524303839418357141 : True := trivial
theorem law1.tw18228569201227521036 : True := trivial
theorem law1.tw7157235396917844617 : True := trivial
theorem law1.tw17272531628571917800 : True := trivial
theorem law1.tw4053595965706145041 : True := trivial
theorem law1.tw12073263460040000029 : True := trivial
theorem law1.tw6392433600545581656 : True := trivial
theorem law1.tw5723886655746123783 : True := trivial
theorem law1.tw13505170558159920336 : True := trivial
theorem law1.tw4588756248244023171 : True := trivial
theorem law1.tw6497397642416365002 : True := trivial
theorem law1.tw14643046516779007390 : True := trivial
theorem law1.tw14521280475652447330 : True := trivial
theorem law1.tw4754440999927297919 : True := trivial
theorem law1.tw16564224722112093030 : True := trivial
theorem law1.tw16016381861985261122 : True := trivial
theorem law1.tw14036605073088234831 : True := trivial
theorem law1.tw11197517674631098064 : True := trivial
theorem law1.tw4265343588192469296 : True := trivial
theorem law1.tw614269750281993183 : True := trivial
theorem law1.tw10702422582169941198 : True := trivial
theorem law1.tw9932938731721296929 : True := trivial
theorem law1.tw15812154146894665394 : True := trivial
theorem law1.tw7535150738596385286 : True := trivial
theorem law1.tw8459921220575144640 : True := trivial
theorem law1.tw6072502084277973460 : True := trivial
theorem law1.tw9713252357347546209 : True := trivial
theorem law1.tw9796815230661463237 : True := trivial
theorem law1.tw9988767976902528910 : True := trivial
theorem law1.tw13525959462306527782 : True := trivial
theorem law1.tw7565065485406659752 : True := trivial
theorem law1.tw5781674152358487707 : True := trivial
theorem law1.tw13085823723931228216 : True := trivial
theorem law1.tw15429642421915448037 : True := trivial
theorem law1.tw5107154883046734502 : True := trivial
theorem law1.tw17280538382527402594 : True := trivial
theorem law1.tw1192524929070207754 : True := trivial
theorem law1.tw18402007516336560585 : True := trivial
theorem law1.tw17798933460297625107 : True := trivial
theorem law1.tw3177673951945653838 : True := trivial
theorem law1.tw6551038473409529485 : True := trivial
theorem law1.tw4990999593934606247 : True := trivial
theorem law1.tw9196565946700252153 : True := trivial
theorem law1.tw8423005654740166167 : True := trivial
theorem law1.tw10576260883013435953 : True := trivial
theorem law1.tw11911471643172553759 : True := trivial
theorem law1.tw12433991459309023848 : True := trivial
theorem law1.tw4503295869896336483 : True := trivial
theorem law1.tw13676359422652952364 : True := trivial
theorem law1.tw17282345546507206386 : True := trivial
theorem law1.tw2969901355463323072 : True := trivial
theorem law1.tw5843800471748826368 : True := trivial
theorem law1.tw15273561434941595546 : True := trivial
theorem law1.tw4656692769408158419 : True := trivial
theorem law1.tw5110581607101548002 : True := trivial
theorem law1.tw11662180883604928699 : True := trivial
theorem law1.tw11904595775140397574 : True := trivial
theorem law1.tw2358600811124512621 : True := trivial
theorem law1.tw7946193698315042949 : True := trivial
theorem law1.tw3412603104295058051 : True := trivial
theorem law1.tw12706798595789434566 : True := trivial
theorem law1.tw8669607870323587436 : True := trivial
theorem law1.tw14561774995351292606 : True := trivial
theorem law1.tw7372620022585678198 : True := trivial
theorem law1.tw7639529239926278809 : True := trivial
theorem law1.tw2618364470588249625 : True := trivial
theorem law1.tw14407974366657601534 : True := trivial
theorem law1.tw3562291248749566947 : True := trivial
theorem law1.tw7137413982928840528 : True := trivial
theorem law1.tw1445441519300415997 : True := trivial
theorem law1.tw6946873057070612630 : True := trivial
theorem law1.tw477345351603712619 : True := trivial
theorem law1.tw12702440210008283268 : True := trivial
theorem law1.tw408656747314554785 : True := trivial
theorem law1.tw13468095160633019082 : True := trivial
theorem law1.tw10324522100507695727 : True := trivial
theorem law1.tw17571067132619281912 : True := trivial
theorem law1.tw7324077036633955390 : True := trivial
theorem law1.tw9101395783151360226 : True := trivial
theorem law1.tw13134437656566262696 : True := trivial
theorem law1.tw7291356117249468058 : True := trivial
theorem law1.tw8924779104283618050 : True := trivial
theorem law1.tw4436989025750342640 : True := trivial
theorem law1.tw3054777995246972226 : True := trivial
theorem law1.tw10847544723256210667 : True := trivial
theorem law1.tw9550933696503932584 : True := trivial
theorem law1.tw9540885506028747257 : True := trivial
theorem law1.tw3694346398610956933 : True := trivial
theorem law1.tw13772970855233759438 : True := trivial
theorem law1.tw17016404234873494323 : True := trivial
theorem law1.tw6188511215526800228 : True := trivial
theorem law1.tw5917853660014468358 : True := trivial
theorem law1.tw617523630683847781 : True := trivial
theorem law1.tw15709463740789551442 : True := trivial
theorem law1.tw611628852456488177 : True := trivial
theorem law1.tw7565020123846586963 : True := trivial
theorem law1.tw17335088387308727069 : True := trivial
theorem law1.tw7365459795268961285 : True := trivial
theorem law1.tw11678694067814682015 : True := trivial
theorem law1.tw3004420175940545120 : True := trivial
theorem law1.tw3699148125748035576 : True := trivial
theorem law1.tw2300625602377341681 : True := trivial
theorem law1.tw14436794036677050081 : True := trivial
theorem law1.tw9701582183060075259 : True := trivial
theorem law1.tw16170579251098391564 : True := trivial
theorem law1.tw13088052402470712256 : True := trivial
theorem law1.tw10442262029687536278 : True := trivial
theorem law1.tw10135372359255278486 : True := trivial
theorem law1.tw1367392750003376964 : True := trivial
theorem law1.tw15998607408734590511 : True := trivial
theorem law1.tw4649632262817407483 : True := trivial
theorem law1.tw938139595666259707 : True := trivial
theorem law1.tw7677298385194351735 : True := trivial
theorem law1.tw11445351109526028502 : True := trivial
theorem law1.tw14577423838838602016 : True := trivial
theorem law1.tw12616363382664872911 : True := trivial
theorem law1.tw4195453400035696182 : True := trivial
theorem law1.tw12705493566826907093 : True := trivial
theorem law1.tw7336903967642513958 : True := trivial
theorem law1.tw2620617962835829906 : True := trivial
theorem law1.tw1320931513388057488 : True := trivial
theorem law1.tw5046711300317769771 : True := trivial
theorem law1.tw14765761158743879326 : True := trivial
theorem law1.tw12836018983413197886 : True := trivial
theorem law1.tw4925221248812450875 : True := trivial
theorem law1.tw1461251552766110146 : True := trivial
theorem law1.tw14235800095081431299 : True := trivial
theorem law1.tw10840300573667146998 : True := trivial
theorem law1.tw11126187110337652349 : True := trivial
theorem law1.tw12404814867839728240 : True := trivial
theorem law1.tw9835188692794327578 : True := trivial
theorem law1.tw7576879296654946392 : True := trivial
theorem law1.tw16541343160230242476 : True := trivial
theorem law1.tw5848815242250378297 : True := trivial
theorem law1.tw17680993994244531561 : True := trivial
theorem law1.tw15015449637908539970 : True := trivial
theorem law1.tw4292388138600263837 : True := trivial
theorem law1.tw9546555820888023388 : True := trivial
theorem law1.tw1657955345913211385 : True := trivial
theorem law1.tw5064553658413013682 : True := trivial
theorem law1.tw8176406523810668851 : True := trivial
theorem law1.tw5999050767834398550 : True := trivial
theorem law1.tw5353748173435715889 : True := trivial
theorem law1.tw16518198823193541865 : True := trivial
theorem law1.tw908569333991000525 : True := trivial
theorem law1.tw623015692846115203 : True := trivial
theorem law1.tw7549934904556980420 : True := trivial
theorem law1.tw15555023332339810936 : True := trivial
theorem law1.tw16359343771485917437 : True := trivial
theorem law1.tw1427635544650440592 : True := trivial
theorem law1.tw10549337598317430865 : True := trivial
theorem law1.tw14887231072911884414 : True := trivial
theorem law1.tw17870540241905151900 : True := trivial
theorem law1.tw18439428281863188106 : True := trivial
theorem law1.tw10563894198985666202 : True := trivial
theorem law1.tw8122449760796223424 : True := trivial
theorem law1.tw17821560585950685033 : True := trivial
theorem law1.tw978956081264999207 : True := trivial
theorem law1.tw11855827538210505336 : True := trivial
theorem law1.tw10581384762633119381 : True := trivial
theorem law1.tw14663038234313017498 : True := trivial
theorem law1.tw3189891138862196064 : True := trivial
theorem law1.tw7741225113211305597 : True := trivial
theorem law1.tw15399374998923649912 : True := trivial
theorem law1.tw14191175597810273662 : True := trivial
theorem law1.tw1790956053371500469 : True := trivial
theorem law1.tw1283888411480450658 : True := trivial
theorem law1.tw16402340599701708509 : True := trivial
theorem law1.tw17153371352560597900 : True := trivial
theorem law1.tw13584807033988019102 : True := trivial
theorem law1.tw8748993855590220710 : True := trivial
theorem law1.tw11048098940179824268 : True := trivial
theorem law1.tw15107531798223574161 : True := trivial
theorem law1.tw4730296490543612469 : True := trivial
theorem law1.tw5440362397146455973 : True := trivial
theorem law1.tw16275985599402988305 : True := trivial
theorem law1.tw6066971927821427704 : True := trivial
theorem law1.tw15680015935119983130 : True := trivial
theorem law1.tw17948042918730924772 : True := trivial
theorem law1.tw9318908921811564507 : True := trivial
theorem law1.tw4429251511101234596 : True := trivial
theorem law1.tw17551635267914091489 : True := trivial
theorem law1.tw3127816018864739706 : True := trivial
theorem law1.tw5993167419369736655 : True := trivial
theorem law1.tw754035850280084850 : True := trivial
theorem law1.tw5260915086583879479 : True := trivial
theorem law1.tw4359653055995613335 : True := trivial
theorem law1.tw13015802866078424135 : True := trivial
theorem law1.tw12936048079728447354 : True := trivial
theorem law1.tw2010915140125124254 : True := trivial
theorem law1.tw11188337217353781040 : True := trivial
theorem law1.tw17388664345339172652 : True := trivial
theorem law1.tw14627441686336490090 : True := trivial
theorem law1.tw2831093780818148388 : True := trivial
theorem law1.tw8008959736794923361 : True := trivial
theorem law1.tw1681485251557440793 : True := trivial
theorem law1.tw17354299410872269241 : True := trivial
theorem law1.tw12299093609434958139 : True := trivial
theorem law1.tw6202216717369048325 : True := trivial
theorem law1.tw67560674543104841 : True := trivial
theorem law1.tw9469746996215883524 : True := trivial
theorem law1.tw5840573096299185226 : True := trivial
theorem law1.tw9416078899705881973 : True := trivial
theorem law1.tw2866517154651117995 : True := trivial
theorem law1.tw16204079497693756981 : True := trivial
theorem law1.tw1312980335302698316 : True := trivial
theorem law1.tw11259543203759216881 : True := trivial
theorem law1.tw175298102689082786 : True := trivial
theorem law1.tw5342406393103154512 : True := trivial
theorem law1.tw10435822698606396996 : True := trivial
theorem law1.tw6999950093095837573 : True := trivial
theorem law1.tw5524639855040449208 : True := trivial
theorem law1.tw10815286289671207477 : True := trivial
theorem law1.tw15629061856159339588 : True := trivial
theorem law1.tw8927758157124602502 : True := trivial
theorem law1.tw17404522503388848774 : True := trivial
theorem law1.tw15679756471571575470 : True := trivial
theorem law1.tw14997549825125888501 : True := trivial
theorem law1.tw7261428386928551579 : True := trivial
theorem law1.tw6227565775093736122 : True := trivial
theorem law1.tw16632768500520138679 : True := trivial
theorem law1.tw11488492985067767331 : True := trivial
theorem law1.tw14015308478958594425 : True := trivial
theorem law1.tw5641686823487304773 : True := trivial
theorem law1.tw1413993497692104434 : True := trivial
theorem law1.tw14622508177141145933 : True := trivial
theorem law1.tw18205832095241422948 : True := trivial
theorem law1.tw1839021827696071710 : True := trivial
theorem law1.tw9894598488848748269 : True := trivial
theorem law1.tw12581302597891620328 : True := trivial
theorem law1.tw14936481372689920133 : True := trivial
theorem law1.tw14244874113962706270 : True := trivial
theorem law1.tw13968311073772488950 : True := trivial
theorem law1.tw17995433054152879203 : True := trivial
theorem law1.tw1703284304590672703 : True := trivial
theorem law1.tw6282310936290758214 : True := trivial
theorem law1.tw14791860266408824649 : True := trivial
theorem law1.tw8850463459364354595 : True := trivial
theorem law1.tw7978594584780247431 : True := trivial
theorem law1.tw16768999281323680276 : True := trivial
theorem law1.tw15369759021067453648 : True := trivial
theorem law1.tw11071639037668714546 : True := trivial
theorem law1.tw17834503722089316962 : True := trivial
theorem law1.tw9494242301506943063 : True := trivial
theorem law1.tw16306843373461922532 : True := trivial
theorem law1.tw3635491124432154220 : True := trivial
theorem law1.tw13805720948232724900 : True := trivial
theorem law1.tw13939917804868558116 : True := trivial
theorem law1.tw10560684542601602444 : True := trivial
theorem law1.tw8997225598503116185 : True := trivial
theorem law1.tw6851577517824072375 : True := trivial
theorem law1.tw9126420173112000809 : True := trivial
theorem law1.tw925845552011036493 : True := trivial
theorem law1.tw17113546397982538570 : True := trivial
theorem law1.tw12815487530851626305 : True := trivial
theorem law1.tw1129676616498559179 : True := trivial
theorem law1.tw7035800947672896051 : True := trivial
theorem law1.tw18431857754087669256 : True := trivial
theorem law1.tw7217613712281558353 : True := trivial
theorem law1.tw9492170758729605689 : True := trivial
theorem law1.tw5032300374342495112 : True := trivial
theorem law1.tw3419254438812811049 : True := trivial
theorem law1.tw4921616789567034567 : True := trivial
theorem law1.tw8582901332420155031 : True := trivial
theorem law1.tw2917310270862232438 : True := trivial
theorem law1.tw17713360937253759607 : True := trivial
theorem law1.tw14745676930198360087 : True := trivial
theorem law1.tw12785233499313813220 : True := trivial
theorem law1.tw14174566145686942592 : True := trivial
theorem law1.tw13630762686982459161 : True := trivial
theorem law1.tw9218046058755961314 : True := trivial
theorem law1.tw17697780568863794616 : True := trivial
theorem law1.tw15478079249197938216 : True := trivial
theorem law1.tw7792173255206331946 : True := trivial
theorem law1.tw3755716680169913504 : True := trivial
theorem law1.tw17570286770603251115 : True := trivial
theorem law1.tw4830056521715879658 : True := trivial
theorem law1.tw14628911834110409245 : True := trivial
theorem law1.tw14480114995793833705 : True := trivial
theorem law1.tw11522976062385721073 : True := trivial
theorem law1.tw1816111540410709374 : True := trivial
theorem law1.tw12770795992282521587 : True := trivial
theorem law1.tw17793156782818458612 : True := trivial
theorem law1.tw4721038401383611581 : True := trivial
theorem law1.tw12287019338074721347 : True := trivial
theorem law1.tw8835331757208406401 : True := trivial
theorem law1.tw5164298648955059022 : True := trivial
theorem law1.tw1462180310772606249 : True := trivial
theorem law1.tw6130233085307644884 : True := trivial
theorem law1.tw15961206955261857833 : True := trivial
theorem law1.tw3867484528072445378 : True := trivial
theorem law1.tw8142345774096221011 : True := trivial
theorem law1.tw7605182472585485192 : True := trivial
theorem law1.tw9684973286482324543 : True := trivial
theorem law1.tw28013977654012253 : True := trivial
theorem law1.tw9286402120629871012 : True := trivial
theorem law1.tw13912668143034764852 : True := trivial
theorem law1.tw15137618383091642010 : True := trivial
theorem law1.tw12526935444215498236 : True := trivial
theorem law1.tw17805898951038366055 : True := trivial
theorem law1.tw7604380047988932360 : True := trivial
theorem law1.tw10335783094591681656 : True := trivial
theorem law1.tw16536346542256954922 : True := trivial
theorem law1.tw8342856415802386046 : True := trivial
theorem law1.tw13727656586431426483 : True := trivial
set_option Elab.async true in
set_option maxHeartbeats 16000000 in
theorem law1 : PySem.Challenge.rw_rh0073_01.Holds := by
  w_on; o_law; k_head; (case hw => w_witness2)
  change WalkO hd.view_1 [] (XL hd.view_1 []) (kHook hd.heap_1 _ _).says _ _ _ _
  k_go0; (all_goals try k_fold); k_steps
  unfold Stop
  (with_reducible rename News _ _ _ _ => nE)
  (with_reducible rename Fr _ _ _ _ => fE)
  (with_reducible rename SymR _ _ _ _ _ => S0)
  (with_reducible rename DueC _ _ _ _ _ => c0)
  (with_reducible rename OutD _ _ _ _ _ => o0)
  (with_reducible rename DatIn _ _ _ => dt0)
  (with_reducible rename (_ ∧ _ ∧ AllLt _ _) => lW)
  refine iter_words (JT _ [(_, _), (_, _), (_, _)] _ _ _ _ _ _) rfl fE nE (.head _) rfl rfl (jt_start S0 (by omega) (by omega) (by assumption) (by assumption) lW o0) ?turn ?done
  case turn =>
    rintro i word t I it nx h tk hi hw ⟨tab, texts, fs, rfl, S, l, lf, A, a, o⟩ hoff F N
    clear fE nE S0 o0
    simp only [List.cons_append, List.nil_append] at N hoff
    have A2 := turn_apart (it := it) hoff A
    k_steps
    (with_reducible rename News _ _ _ _ => nT)
    (with_reducible rename Fr _ _ _ _ => fT)
    exact told_end hoff fT nT (by assumption) (by assumption) (by omega) (by omega) (by assumption)
  case done =>
    rintro mx nx h tk ⟨tab, texts, fs, rfl, S, l, lf, A, a, o⟩ F N
    clear fE nE S0 o0
    simp only [List.cons_append, List.nil_append] at N
    have A2 := A
    cases c0 with
    | int i t hp => k_steps
    | err r ds hp => k_steps
    | big r ds v hp =>
      obtain ⟨hp, b0, b1, b2, e0, em, lo, hi, hv⟩ := hp
      k_steps
end Mine
end

theorem PySem.Challenge.cw_rh0073_01_holds : PySem.Challenge.rw_rh0073_01.Holds := by
  exact Mine.law1
