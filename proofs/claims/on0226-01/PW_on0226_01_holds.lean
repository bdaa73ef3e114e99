import PyProof.Rows.All
import Wide.All
import OpenK.AllK
import Wide.FinOn
import PySem.Challenge.RW_on0226_01
set_option Elab.async false

namespace Mine
open PySem PySem.W PyProof.Rows
set_option maxRecDepth 100000
set_option maxHeartbeats 0
open_top hd for PySem.Challenge.rw_on0226_01
end Mine

namespace Mine
theorem q_room0 {d n c : Nat} (h : d + n < c) : d < c := Nat.lt_of_le_of_lt (Nat.le_add_right d n) h
theorem q_room1 {d n a c : Nat} (h : d + n < c) (k : Nat.ble a n = true) : d + a < c := Nat.lt_of_le_of_lt (Nat.add_le_add_left (Nat.le_of_ble_eq_true k) d) h
theorem q_room2 {d n a b c : Nat} (h : d + n < c) (k : Nat.ble (a + b) n = true) : d + a + b < c := by rw [Nat.add_assoc]; exact q_room1 h k
theorem q_room4 {d n a b e f c : Nat} (h : d + n < c) (k : Nat.ble (a + b + e + f) n = true) : d + a + b + e + f < c := by
  have := q_room1 h k
  simp only [← Nat.add_assoc] at this; exact this
theorem q_rv {d r c : Nat} (h : d + (r + 20) < c) : d + 1 + r < c := Nat.lt_of_le_of_lt (by rw [Nat.add_assoc, Nat.add_comm 1 r]; exact Nat.add_le_add_left (Nat.add_le_add_left (by decide) r) d) h
theorem q_ru {d r c : Nat} (h : d + 10 * (r + 20) < c) : d + 3 + 10 * r < c := Nat.lt_of_le_of_lt (by rw [Nat.mul_add, Nat.add_assoc, Nat.add_comm 3]; exact Nat.add_le_add_left (Nat.add_le_add_left (by decide) _) d) h
theorem q_le {a b c : Nat} (h : a ≤ b) (k : Nat.ble b c = true) : a ≤ c := Nat.le_trans h (Nat.le_of_ble_eq_true k)
theorem q_min {a b c d : Nat} (h : a ≤ b) (k : Nat.ble b c = true) : min d a ≤ c := Nat.le_trans (Nat.min_le_right _ _) (q_le h k)
theorem q_up1 {x l : Nat} (h : x < l) : l + 1 ≠ x := Nat.ne_of_gt (Nat.lt_succ_of_lt h)
theorem q_up2 {x l : Nat} (h : x < l) : l + 1 + 1 ≠ x := Nat.ne_of_gt (Nat.lt_succ_of_lt (Nat.lt_succ_of_lt h))
theorem q_up3 {x l : Nat} (h : x < l) : l + 1 + 1 + 1 ≠ x := Nat.ne_of_gt (Nat.lt_succ_of_lt (Nat.lt_succ_of_lt (Nat.lt_succ_of_lt h)))
theorem q_bb {b e : Int} {n : Nat} (h : b < e) (h2 : e ≤ (n : Int)) (h3 : n ≤ 2000) : b ≤ 5000 := by omega
theorem q_lo {v : Int} (h : 0 ≤ v) : -2 ^ 64 < v := by omega
theorem q_hi {v : Int} (h : v < 256) : v < 2 ^ 64 := by omega
theorem q_r1 {a b : Prop} (z : a ∧ b) : b := z.2
theorem q_r2 {a b c : Prop} (z : a ∧ b ∧ c) : c := z.2.2
theorem q_r3 {a b c d : Prop} (z : a ∧ b ∧ c ∧ d) : d := z.2.2.2
theorem q_r4 {a b c d e : Prop} (z : a ∧ b ∧ c ∧ d ∧ e) : e := z.2.2.2.2
theorem q_r5 {a b c d e f : Prop} (z : a ∧ b ∧ c ∧ d ∧ e ∧ f) : f := z.2.2.2.2.2
theorem q_r6 {a b c d e f g : Prop} (z : a ∧ b ∧ c ∧ d ∧ e ∧ f ∧ g) : g := z.2.2.2.2.2.2
theorem q_r7 {a b c d e f g i : Prop} (z : a ∧ b ∧ c ∧ d ∧ e ∧ f ∧ g ∧ i) : i := z.2.2.2.2.2.2.2
theorem q_r8 {a b c d e f g i j : Prop} (z : a ∧ b ∧ c ∧ d ∧ e ∧ f ∧ g ∧ i ∧ j) : j := z.2.2.2.2.2.2.2.2
theorem q_r9 {a b c d e f g i j k : Prop} (z : a ∧ b ∧ c ∧ d ∧ e ∧ f ∧ g ∧ i ∧ j ∧ k) : k := z.2.2.2.2.2.2.2.2.2
theorem q_r10 {a b c d e f g i j k l : Prop} (z : a ∧ b ∧ c ∧ d ∧ e ∧ f ∧ g ∧ i ∧ j ∧ k ∧ l) : l := z.2.2.2.2.2.2.2.2.2.2
theorem q_r11 {a b c d e f g i j k l m : Prop} (z : a ∧ b ∧ c ∧ d ∧ e ∧ f ∧ g ∧ i ∧ j ∧ k ∧ l ∧ m) : m := z.2.2.2.2.2.2.2.2.2.2.2
theorem q_r12 {a b c d e f g i j k l m n : Prop} (z : a ∧ b ∧ c ∧ d ∧ e ∧ f ∧ g ∧ i ∧ j ∧ k ∧ l ∧ m ∧ n) : n := z.2.2.2.2.2.2.2.2.2.2.2.2
theorem q_tok {α : Type} {M : PySem.Model} {A : PySem.Around} {t : PySem.Sem α} {Q : α → PySem.Shared → Prop} {E : PySem.Value → PySem.Shared → Prop} {h : PySem.Heap} {g : Array PySem.GenState} {d : PySem.Drawn} {o : PySem.OsState} {a b : Nat}
    (H : ∀ tk, PySem.wpAny M A t Q E { heap := h, gens := g, drawn := d, toks := tk, os := o }) : PySem.wpAny M A t Q E { heap := h, gens := g, drawn := d, toks := a + b, os := o } := H _
theorem q_hide {P : Prop} (h : ∀ G : Prop, (P → G) → G) : P := h P id
theorem q_ms {a b c d e : Nat} (h : a ≤ b) (k : Nat.ble b c = true) : min d (a - e) ≤ c := Nat.le_trans (Nat.min_le_right _ _) (Nat.le_trans (Nat.sub_le _ _) (q_le h k))
end Mine

section
open PySem PySem.W PyProof.Rows
set_option compiler.extract_closed false
local macro_rules | `(tactic| k_units) => `(tactic| with_reducible assumption)
local macro_rules | `(tactic| k_flat) => `(tactic| first | assumption | exact Mine.q_r1 (by assumption) | exact Mine.q_r2 (by assumption) | exact Mine.q_r3 (by assumption) | exact Mine.q_r4 (by assumption) | exact Mine.q_r5 (by assumption) | exact Mine.q_r6 (by assumption) | exact Mine.q_r7 (by assumption) | exact Mine.q_r8 (by assumption) | exact Mine.q_r9 (by assumption) | exact Mine.q_r10 (by assumption) | exact Mine.q_r11 (by assumption) | exact Mine.q_r12 (by assumption))
local macro_rules | `(tactic| omega) => `(tactic| first | ((with_reducible show @Ne Nat _ _); (iterate 2 (all_goals with_reducible first | assumption | exact Nat.ne_of_gt (And.left (by k_flat)) | exact Mine.q_up1 (by assumption) | exact Mine.q_up2 (by assumption) | exact Mine.q_up3 (by assumption) | exact And.left (by k_flat) | refine Ne.symm ?_)); done) | exact Nat.le_of_ble_eq_true rfl | ((with_reducible show _ < (_ : Nat)); first | exact Mine.q_room2 (by k_units) (by rfl) | exact Mine.q_room4 (by k_units) (by rfl) | exact Mine.q_room1 (by k_units) (by rfl) | exact Mine.q_room0 (by k_units) | exact Mine.q_rv (by k_units) | exact Mine.q_ru (by k_units)) | ((with_reducible show ((_ : Nat) : Int) = _); exact rfl) | ((with_reducible show _ ≤ (_ : Nat)); first | exact Mine.q_le (by k_units) (by rfl) | exact Mine.q_min (by k_units) (by rfl) | exact Mine.q_ms (by k_units) (by rfl)) | (with_reducible exact Mine.q_bb (by assumption) (by assumption) (by assumption)) | (with_reducible first | exact Mine.q_lo (by assumption) | exact Mine.q_hi (by assumption)) | decide)
local macro_rules | `(tactic| walk_at $s:str) => `(tactic| k_extra $s)

-- P1
namespace Mine
open PySem PySem.W PyProof.Rows
set_option maxRecDepth 100000
set_option maxHeartbeats 0
local macro_rules | `(tactic| k_all) => `(tactic| assumption)

theorem mul_in {prog : Program} {w : World} {A : Around} {E : Value → Shared → Prop} {s : Shared} {a b : Int} {t u : Tok} {Q : Value → Shared → Prop} (h1 : -(2^64) < a) (h2 : a < 2^64) (h : Q (.int (a * b) s.toks) { s with toks := s.toks + 1 }) :
    wpAny (model prog w) A (binaryOp .Mult (.int a t) (.int b u)) Q E s := PyProof.Rows.mul_int h (IntMulOk.of_left (intBits_le_64 h1 h2))
noncomputable def isPush (n : Int) : Bool := (n == 64 || n == 65) || (decide (176 ≤ n) && decide (n < 192))

theorem isPush_a {n : Int} (h : ([64, 65].any fun x => x == n) = true) : isPush n = ([64, 65].any fun x => x == n) := by
  rw [h]; simp only [List.any_cons, List.any_nil, Bool.or_eq_true, beq_iff_eq] at h
  rcases h with h | h | h
  · subst h; rfl
  · subst h; rfl
  · cases h
theorem isPush_n {n : Int} (h : ([64, 65].any fun x => x == n) = false) : isPush n = (decide (176 ≤ n) && decide (n < 192)) := by
  simp only [List.any_cons, List.any_nil, Bool.or_eq_false_iff, beq_eq_false_iff_ne] at h
  have h1 : (n == 64) = false := beq_eq_false_iff_ne.mpr (Ne.symm h.1)
  have h2 : (n == 65) = false := beq_eq_false_iff_ne.mpr (Ne.symm h.2.1)
  simp [isPush, h1, h2]
theorem isPush_b {n : Int} (h : ([64, 65].any fun x => x == n) = false) (h2 : 176 ≤ n) : isPush n = decide (n < 192) := by rw [isPush_n h]; simp [h2]
theorem isPush_c {n : Int} (h : ([64, 65].any fun x => x == n) = false) (h2 : ¬ 176 ≤ n) : isPush n = decide (176 ≤ n) := by rw [isPush_n h]; simp [h2]
theorem fm_is {a b : Int} (h : 0 ≤ a) (hb : 0 < b) : Int.fmod a b = a % b ∧ Int.fdiv a b = a / b := ⟨Int.fmod_eq_emod_of_nonneg _ (by omega), Int.fdiv_eq_ediv_of_nonneg _ (by omega)⟩
theorem fm_in {a b : Int} (hb : 0 < b) : 0 ≤ Int.fmod a b ∧ Int.fmod a b < b := by
  rw [Int.fmod_eq_emod_of_nonneg _ (by omega)]
  exact ⟨Int.emod_nonneg _ (by omega), Int.emod_lt_of_pos _ hb⟩
theorem fd_nn {a b : Int} (h : 0 ≤ a) (hb : 0 < b) : 0 ≤ Int.fdiv a b := by
  rw [(fm_is h hb).2]; exact Int.ediv_nonneg h (by omega)

section
variable {prog : Program} {w : World} {p : Program} {loose : List Str} {mean : ExcName → Option Value} {mg mb : Str → Option Value}
    {dp un : Nat} {gd : Option (List Code)} {cn : Str} {cs : Scope} {a : Addr} {ccd : Value} {cl : List (Str × Addr)} {outer : List Env} {A₀ : Around} {base h₀ : Heap} {L : Addr} {m : Str → Option Value} {news : List (Addr × Obj)} {s : Shared}
    {Q E : Value → Shared → Prop} 
variable (B : Below A₀ base outer h₀) (F : Fr h₀ L s.heap m) (X : (Mine.hd.heap_39 w.params).In h₀) (T : Top p loose mean mg mb h₀) (hk : cs.kind = .function)
include B F X T hk

theorem c_is_push {n : Int} {t : Tok} (N : News h₀ L s.heap news) (hd : dp + 10 < recursionLimit) (hu : un + 80 < cLine)
    (hret : ∀ h' tk', Fr h₀ L h' m → News h₀ L h' news → Q (.bool (isPush n)) { s with heap := h', toks := tk' }) :
    wpAny (model prog w) (ktrTop dp un gd cn cs L a ccd cl outer) (call (.ref 60) [.int n t]) Q E s := by
  w_top off
  k_with_none
  k_with "execs cons" => (k_here; dsimp only)
  k_with "execs cons" => (k_here; with_reducible refine q_tok (fun tk => ?_))
  k_with "execs cons" => (k_here; (with_reducible show wpAny _ _ _ _ _ _); k_fold)
  refine wpAny_call ?_
  k_dflt ktr_enter
  k_steps
  all_goals (rename News h₀ L _ _ => kN)
  all_goals (have kN' := fun p hp => kN p (List.mem_cons_of_mem _ hp))
  · rename (([64, 65].any fun x => x == n) = true) => h1
    rw [← isPush_a h1]; exact hret _ _ (by assumption) kN'
  · rename (([64, 65].any fun x => x == n) = false) => h1
    rw [← isPush_b h1 (by assumption)]; exact hret _ _ (by assumption) kN'
  · rename (([64, 65].any fun x => x == n) = false) => h1
    rw [← isPush_c h1 (by assumption)]; exact hret _ _ (by assumption) kN'

theorem c_law_take {src : Addr} {x y : Int} {vs : List Value} {n : Nat} {rest : List (Addr × Obj)} {top : Int} {t : Tok}
    (N : News h₀ L s.heap ((src, listOf vs.toArray n) :: rest)) (hd : dp + 10 < recursionLimit) (hu : un + 80 < cLine)
    (hvs : IntsAre vs [x, y])
    (hx : 0 ≤ x) (hy : 0 ≤ y) (hy2 : y < 2147483647) (ht : 2 ≤ top) (ht2 : top ≤ 100)
    (hrest : ∀ p ∈ rest, p.1 ≠ src)
    (hret : ∀ h' tk' r tr x' y' vs' n', IntsAre vs' [x', y'] → 0 ≤ x' → 0 ≤ y' → y' < 2147483647 → 0 ≤ r → r < top → Fr h₀ L h' m → News h₀ L h' ((src, listOf vs'.toArray n') :: rest) → Q (.int r tr) { s with heap := h', toks := tk' }) :
    wpAny (model prog w) (ktrTop dp un gd cn cs L a ccd cl outer) (call (.ref 109) [.ref src, .int top t]) Q E s := by
  w_top off
  k_with_none
  k_with "execs cons" => (k_here; dsimp only)
  k_with "execs cons" => (k_here; with_reducible refine q_tok (fun tk => ?_))
  k_with "execs cons" => (k_here; (with_reducible show wpAny _ _ _ _ _ _); k_fold)
  refine wpAny_call ?_
  k_dflt ktr_enter
  k_steps
  · rename (0 < [x, y].getD (Int.toNat 0) 0) => h0
    have h0' : 0 < x := h0
    rename IntsAre (vs.set _ _) _ => hi
    exact hret _ _ _ _ _ _ _ _ hi (fd_nn (by omega) (by omega)) hy hy2 (fm_in (by omega)).1 (fm_in (by omega)).2 (by assumption) (by assumption)
  · skip
    rename (¬ 0 < [x, y].getD (Int.toNat 0) 0) => h0
    rename IntsAre (vs.set _ _) _ => hi
    have hb := @fm_in (y * 39373 + 7) 2147483647 (by omega)
    refine mul_in (show -(2^64) < ((y * 39373 + 7).fmod 2147483647) by omega) (show ((y * 39373 + 7).fmod 2147483647) < 2^64 by omega) ?_
    k_steps
    exact hret _ _ _ _ _ _ _ _ hi hx hb.1 hb.2 (fm_in (by omega)).1 (fm_in (by omega)).2 (by assumption) (by assumption)
end
end Mine

-- X1
namespace Mine
open PySem PySem.W PySem.Calls PyProof.Rows Builtin Builtin.ObjectAttr
set_option maxRecDepth 100000
set_option maxHeartbeats 0
noncomputable abbrev bm44 : List Value := [.ref 31, .type "Exception", .type "BaseException", .type "object"]
noncomputable abbrev excObj (dd : Option Addr) (t : Addr) : Obj := { cls := .ref 44, dict := dd, data := .fields #[.ref t, .none, .none, .none, .bool false, .none] }
theorem hC44 {w : World} {h : Heap} (X : (Mine.hd.heap_39 w.params).In h) : h.get? 44 = some (excClassObj "HintFault" "HintFault" 44 43 [.ref 31] bm44 true [] [] false none none (some (.ref 35)) none (some (.str "HintFault" 218)) (some (.str "HintFault" 226)) (some (.bool true)) "Exception.__new__") := X 44 _ rfl

theorem raise_made {M : Model} {A : Around} {E : Value → Shared → Prop} {w : World} {env : Env} {s : Shared} {x : Sem Value} {Q : Flow → Shared → Prop} (hh : A.handled = none)
    (h : wpAny M A x (fun v s₁ => ∃ e t dd, v = .ref e ∧ (Mine.hd.heap_39 w.params).In s₁.heap ∧ s₁.heap.get? e = some (excObj dd t) ∧ E (.ref e) s₁) E s) :
    wpAny M A (raiseStmt env (some x) none) Q E s := by
  have hcB : (Value.ref 44 :: bm44).contains (.type "BaseException") = true := by decide +kernel
  unfold raiseStmt
  refine wpAny_bind (wpAny_mono h (fun v s₁ h₁ => ?_) fun _ _ x => x)
  obtain ⟨e, t, dd, rfl, X, he, hE⟩ := h₁
  obtain ⟨hp, g, d, tk, os⟩ := s₁
  have hC := hC44 X
  repeat (first | with_reducible refine wpAny_loadPart_at he ?_ | with_reducible refine wpAny_loadPart_at hC ?_ | (with_reducible refine wpAny_isSubtype_exc hC ?_; rw [hcB]) | wp_step)
  exact wpAny_raiseNew_none hh hE

theorem raise_H {M : Model} {A : Around} {E : Value → Shared → Prop} {w : World} {env : Env} {s : Shared} {e : Expr} {pos : Pos} {Q : Flow → Shared → Prop} (hh : A.handled = none)
    (h : wpAny M A (eval e env) (fun v s₁ => ∃ e t dd, v = .ref e ∧ (Mine.hd.heap_39 w.params).In s₁.heap ∧ s₁.heap.get? e = some (excObj dd t) ∧ E (.ref e) s₁) E s) :
    wpAny M A (exec (.Raise (some e) none pos) env) Q E s := by
  show wpAny M A (do standAt pos; raiseStmt env (some (do let v ← eval e env; standAt pos; pure v)) none) Q E s
  refine wpAny_bind (wpAny_standAt (raise_made (w := w) hh ?_))
  exact wpAny_bind (wpAny_mono h (fun v s₁ h₁ => wpAny_bind (wpAny_standAt (wpAny_pure h₁))) fun _ _ x => x)

theorem refuse44 (self : Value) : refuseLoop self "__setattr__" (.ref 44 :: bm44) = pure () := by
  rw [refuseLoop_ref, refuseLoop_ref]
  with_unfolding_all rfl

section
variable {prog : Program} {w : World} {A : Around} {E : Value → Shared → Prop} {h : Heap} {g : Array GenState} {d : Drawn} {t : Nat} {os : OsState} {x t' : Addr} {v : Value}
theorem isInst44 {M : Model} {o : Obj} {c : Value} {Q : Bool → Shared → Prop} (X : (Mine.hd.heap_39 w.params).In h) (hx : h.get? x = some o) (hc : o.cls = .ref 44) (hcB : (Value.ref 44 :: bm44).contains c = true) (hq : Q true ⟨h, g, d, t, os⟩) :
    wpAny M A (isInstance (.ref x) c) Q E ⟨h, g, d, t, os⟩ := by
  have hC := hC44 X
  unfold isInstance
  repeat (first | (with_reducible refine wpAny_loadPart_at hx ?_; rw [hc]) | (with_reducible refine wpAny_isSubtype_exc hC ?_; rw [hcB]) | wp_step)
  exact hq

theorem check_sa44 {M : Model} {o : Obj} {nameV : Value} {Q : Unit → Shared → Prop} 
    (X : (Mine.hd.heap_39 w.params).In h) (hx : h.get? x = some o) (hc : o.cls = .ref 44) (hq : Q () ⟨h, g, d, t, os⟩) :
    wpAny M A (checkBuiltinCall "object.__setattr__" ⟨[.ref x, nameV, v], []⟩) Q E ⟨h, g, d, t, os⟩ := by
  have SF := PySem.F.store_Exception
  have ha := SF.args (.ref x) nameV v
  simp only [checkBuiltinCall, SF.kind, SF.split]
  refine wpAny_bind (isInst44 X hx hc (by decide +kernel) ?_)
  repeat wp_step
  exact hq

theorem store44 {tk : Tok} {Q : Fin → Shared → Prop} (X : (Mine.hd.heap_39 w.params).In h) (hx : h.get? x = some (excObj none t'))
    (hq : ∀ h' tk' dx, h'.get? x = some (excObj (some dx) t') → (∀ b o, b ≠ x → h.get? b = some o → h'.get? b = some o) → Q (.done (.ret .none)) ⟨h', g, d, tk', os⟩) :
    wpAny (model prog w) A (Builtin.«object.__setattr__» ⟨[.ref x, .str "message" tk, v], []⟩) Q E ⟨h, g, d, t, os⟩ := by
  k_with_none
  w_top off
  have hC := hC44 X
  have hxC : x ≠ 44 := fun e => by subst e; rw [hx] at hC; cases hC
  have hm : Looks (model prog w) h (typeLookup (.ref 44) "message") none := looks_findIn X (by k_is)
  have hpass := refuse44 (.ref x)
  unfold Builtin.«object.__setattr__»
  repeat (first | rw [refuse_eq] | (rw [hpass]) | (with_reducible refine wpAny_loadPart_at hx ?_) | with_reducible refine wpAny_mroOf_exc hC ?_ | (with_reducible refine hm.here ?_) | wp_step)
  have hx₁ : (h.push { cls := .type "dict", data := .dict #[] }).get? x = some (excObj none t') := Heap.get?_push_of_some _ hx
  have hxs : x ≠ h.objs.size := Nat.ne_of_lt (Heap.lt_size hx)
  have hgd : ((h.push { cls := .type "dict", data := .dict #[] }).update x fun o => { cls := o.cls, dict := some h.objs.size, data := o.data, slots := o.slots }).get? h.objs.size
      = some { cls := .type "dict", data := .dict #[] } :=
    (Heap.get?_update_ne _ _ _ _ hxs.symm).trans (Heap.get?_push_at rfl rfl)
  have hxx : ((h.push { cls := .type "dict", data := .dict #[] }).update x fun o => { cls := o.cls, dict := some h.objs.size, data := o.data, slots := o.slots }).get? x = some (excObj (some h.objs.size) t') :=
    Heap.get?_update_self _ hx₁ rfl
  refine wpAny_askSetting (wpAny_pure (wpAny_bind (wpAny_mkText (wpAny_bind (wpAny_loadPart hgd ?_)))))
  dsimp only
  rw [if_neg (by with_unfolding_all decide)]
  refine wpAny_updatePart hgd ?_
  refine wpAny_bind (wpAny_lookBehind (Heap.get?_update_self _ hgd ?_) ?_ ?_)
  · with_unfolding_all rfl
  · with_unfolding_all rfl
  · refine wpAny_pure (hq _ _ h.objs.size ?_ fun b o hb hbo => ?_)
    · exact (Heap.get?_update_ne _ _ _ _ hxs).trans hxx
    · exact (Heap.get?_update_ne _ _ _ _ (Nat.ne_of_lt (Heap.lt_size hbo))).trans ((Heap.get?_update_ne _ _ _ _ hb).trans (Heap.get?_push_of_some _ hbo))

theorem set_msg {Q : Unit → Shared → Prop} (X : (Mine.hd.heap_39 w.params).In h) (hx : h.get? x = some (excObj none t'))
    (hq : ∀ h' tk' dx, h'.get? x = some (excObj (some dx) t') → (∀ b o, b ≠ x → h.get? b = some o → h'.get? b = some o) → Q () ⟨h', g, d, tk', os⟩) :
    wpAny (model prog w) A (setAttr (.ref x) "message" v) Q E ⟨h, g, d, t, os⟩ := by
  k_with_none
  w_top off
  have SF := PySem.F.store_Exception
  have hm : Looks (model prog w) h (typeLookup (.ref 44) "__setattr__") (some (.builtin "object.__setattr__")) := looks_findIn X (by k_is)
  have f3 := SF.slot.bind (.ref x)
  unfold setAttr callSpecial? specialOf
  repeat (any_goals (first | assumption | (with_reducible refine wpAny_loadPart_at hx ?_) | (with_reducible refine hm.here ?_) | wp_step))
  refine codeAny_call_builtin SF.slot.plain SF.entry (check_sa44 X hx rfl (store44 X hx fun h' tk' dx e k => ?_))
  repeat (any_goals (first | assumption | wp_step))
  exact hq h' tk' dx e k

theorem check_new44 {M : Model} {rest : List Value} {Q : Unit → Shared → Prop} (X : (Mine.hd.heap_39 w.params).In h)
    (hq : Q () ⟨h, g, d, t, os⟩) : wpAny M A (checkBuiltinCall "Exception.__new__" ⟨.ref 44 :: rest, []⟩) Q E ⟨h, g, d, t, os⟩ := by
  have hC := hC44 X
  have Fn := PySem.F.excBase_Exception
  have hcont : (Value.ref 44 :: bm44).contains (.type "Exception") = true := by decide +kernel
  have hstar := Fn.noStar
  simp only [checkBuiltinCall, Fn.newKind, Fn.newSplit, Fn.newRow]
  repeat (first | refine wpAny_loadPart_at hC ?_ | (refine wpAny_isSubtype_exc hC ?_; rw [hcont]) | refine wpAny_staticBase_exc hC ?_ | refine wpAny_madeBy_exc hC ?_ | simp only [bne_self_eq_false, Bool.false_eq_true, if_false] | wp_step)
  exact hq

theorem new44 {rest : List Value} {R : Result → Shared → Prop} (X : (Mine.hd.heap_39 w.params).In h)
    (hq : R (.ok (.ret (.ref (h.objs.size + 1)))) ⟨(h.push { cls := .type "tuple", data := .seq rest.toArray }).push (excObj none h.objs.size), g, d, t, os⟩) (hrest : rest.length ≤ sizeLine) :
    codeAny (model prog w) A (.builtin "Exception.__new__" ⟨.ref 44 :: rest, []⟩) R ⟨h, g, d, t, os⟩ := by
  have hC := hC44 X
  have Fn := PySem.F.excBase_Exception
  have hends := Fn.ends
  have hcB : (Value.ref 44 :: bm44).contains (.type "Exception") = true := by decide +kernel
  have hcA : (Value.ref 44 :: bm44).contains (.type "AttributeError") = false := by decide +kernel
  have hcN : (Value.ref 44 :: bm44).contains (.type "NameError") = false := by decide +kernel
  refine codeAny_builtinAt Fn.entry ?_
  unfold Builtin.«BaseException.__new__»
  refine PySem.wpAt_bind ?_
  show PySem.wpAt _ _ _ (stack >>= _) _ _ _
  refine PySem.wpAt_bind (PySem.wpAt_stack fun p below => PySem.wpAt_of_wpAny ?_)
  wp_walk
  refine PySem.wpAt_of_wpAny ?_
  rw [Fn.owner]
  repeat (first | with_reducible refine wpAny_madeHere_exc Fn.canon hC ?_ | with_reducible refine wpAny_loadPart_at hC ?_ | (with_reducible refine wpAny_isSubtype_exc hC ?_; first | rw [hcB] | rw [hcA] | rw [hcN]) | wp_step)
  show R _ _
  rw [Heap.size_push]
  exact hq
end
end Mine

-- X2
namespace Mine
open PySem PySem.W PySem.Calls PyProof.Rows Builtin Builtin.ObjectAttr
set_option maxRecDepth 100000
set_option maxHeartbeats 0
theorem fr_turn {h₀ h h' : Heap} {L x : Addr} {m : Str → Option Value} (F : Fr h₀ L h m) (hx : h₀.get? x = none) (hL : x ≠ L) (k : ∀ b o, b ≠ x → h.get? b = some o → h'.get? b = some o) : Fr h₀ L h' m := by
  obtain ⟨o, es, ep, e, r⟩ := F.ns
  exact ⟨⟨o, es, ep, k _ _ (Ne.symm hL) e, r⟩, fun b o e => k b o (fun q => by subst q; rw [hx] at e; cases e) (F.keep b o e), F.above⟩
theorem news_turn {h₀ h h' : Heap} {L x : Addr} {o o' : Obj} {rest : List (Addr × Obj)} (N : News h₀ L h ((x, o) :: rest)) (hne : ∀ p ∈ rest, p.1 ≠ x) (k : ∀ b o, b ≠ x → h.get? b = some o → h'.get? b = some o) (e : h'.get? x = some o') : News h₀ L h' ((x, o') :: rest) := by
  intro p hp
  rcases List.mem_cons.mp hp with rfl | hp
  · exact ⟨e, (N _ (.head _)).2⟩
  · exact ⟨k _ _ (hne p hp) (N _ (.tail _ hp)).1, (N _ (.tail _ hp)).2⟩
theorem news_sub {h₀ h : Heap} {L : Addr} {l l' : List (Addr × Obj)} (N : News h₀ L h l) (hs : ∀ p ∈ l', p ∈ l) : News h₀ L h l' := fun p hp => N p (hs p hp)

section
variable {prog : Program} {w : World} {p : Program} {loose : List Str} {mean : ExcName → Option Value} {mg mb : Str → Option Value}
    {dp un : Nat} {gd : Option (List Code)} {cn : Str} {cs : Scope} {a : Addr} {ccd : Value} {cl : List (Str × Addr)} {outer : List Env} {A₀ : Around} {base h₀ : Heap} {L : Addr} {m : Str → Option Value} {news : List (Addr × Obj)} {s : Shared}
    {Q E : Value → Shared → Prop} 
variable (B : Below A₀ base outer h₀) (F : Fr h₀ L s.heap m) (X : (Mine.hd.heap_39 w.params).In h₀) (T : Top p loose mean mg mb h₀) (hk : cs.kind = .function)
include B F X T hk
theorem c_hint {msg : Str} {tk : Tok} (N : News h₀ L s.heap news) (hd : dp + 5 < recursionLimit) (hu : un + 40 < cLine)
    (hret : ∀ h' tk' e t' dx, Fr h₀ L h' m → News h₀ L h' ((e, excObj (some dx) t') :: news) → (∀ p ∈ news, p.1 ≠ e) → Q (.ref e) { s with heap := h', toks := tk' }) :
    wpAny (model prog w) (ktrTop dp un gd cn cs L a ccd cl outer) (call (.ref 44) [.str msg tk]) Q E s := by
  k_with_none
  w_top off
  obtain ⟨h, g, d, t, os⟩ := s
  have Xh : (Mine.hd.heap_39 w.params).In h := X.keeps F.keep
  have hC := hC44 Xh
  have Fn := PySem.F.excBase_Exception
  have f1 := tc_lookup
  have f2 := tc_bind (.ref 44)
  have hT : (⟨h, g, d, t, os⟩ : Shared).TypeIs (.ref 44) "type" := ⟨_, hC, rfl⟩
  refine wpAny_call (codeAny_of_tree ?_)
  show wpAny _ _ (callAny (.ref 44) _) _ _ _
  repeat (any_goals (first | assumption | with_reducible refine wpAny_loadPart_at hC ?_ | wp_step))
  refine ⟨rfl, ?_⟩
  refine codeAny_call_builtin_at (Code.quiet_builtin _ (by decide +kernel)) entry_typeCall (wpAny_check_type_call_sub hC ?_)
  repeat (first | with_reducible refine wpAny_loadPart_at hC ?_ | with_reducible refine wpAny_madeBy_exc hC ?_ | wp_step)
  refine codeAny_call_builtin_code (Code.quiet_builtin _ Fn.quiet) (check_new44 Xh ?_)
  refine new44 Xh ?_ (by simp [sizeLine])
  show wpAny _ _ _ _ _ _
  have hget : ((h.push { cls := .type "tuple", data := .seq [Value.str msg tk].toArray }).push (excObj none h.objs.size)).get? (h.objs.size + 1) = some (excObj none h.objs.size) := by heap_get
  have F₂ := (F.push { cls := .type "tuple", data := .seq [Value.str msg tk].toArray }).push (excObj none h.objs.size)
  have X₂ : (Mine.hd.heap_39 w.params).In ((h.push { cls := .type "tuple", data := .seq [Value.str msg tk].toArray }).push (excObj none h.objs.size)) := X.keeps F₂.keep
  refine wpAny_bind (isInst44 X₂ hget rfl (by decide +kernel) ?_)
  repeat wp_step
  have hi : findIn (Mine.hd.heap_39 w.params) (.ref 44) "__init__" = some (some (.ref 28)) := by k_is
  have hf : typeIn (Mine.hd.heap_39 w.params) (.ref 28) = some (.type "function") := by k_is
  show wpAny _ _ (typeLookup (.ref 44) _) _ _ _
  refine (looks_findIn X₂ hi).here ?_
  refine wpAny_holding (wpAny_bind ((bind_fn X₂ _ hf).here ?_))
  have N₂ := (N.push F { cls := .type "tuple", data := .seq [Value.str msg tk].toArray }).push (F.push _) (excObj none h.objs.size)
  rw [Heap.size_push] at N₂
  refine wpAny_bind (wpAny_call ?_)
  show codeAny (model prog w) (ktrTop (dp + 1) (un + 1) gd cn cs L a ccd cl outer) (.call (.ref 28) ⟨[.ref (h.objs.size + 1), .str msg tk], []⟩) _ _
  have Nold : ∀ p ∈ news, h.get? p.1 = some p.2 ∧ True := fun p hp => ⟨(N p hp).1, trivial⟩
  clear X₂ hget F N Xh hC hT Fn f1 f2
  have hd' : dp + 1 + 4 < recursionLimit := by omega
  have hu' : un + 1 + 30 < cLine := by omega
  k_dflt ktr_enter
  k_steps
  rename News _ _ _ (_ :: _) => N'
  rename Fr _ _ _ (fun y => List.lookup y _) => F'
  rename (Mine.hd.heap_39 w.params).In _ => X'
  have hx := (N' _ (.head _)).1
  have hlt : ∀ p ∈ news, p.1 ≠ h.objs.size + 1 := fun p hp e => by
    have q := Heap.lt_size (Nold p hp).1
    rw [e] at q
    exact absurd q (Nat.not_lt.mpr (Nat.le_succ _))
  refine set_msg (X'.keeps F'.keep) hx fun h'' tk'' dx e1 k1 => ?_
  have F'' := fr_turn F' (N' _ (.head _)).2.2 (N' _ (.head _)).2.1 k1
  have N'' := news_turn N' (by
    intro p hp
    rcases List.mem_cons.mp hp with rfl | hp
    · exact Nat.ne_of_lt (Nat.lt_succ_self _)
    · exact hlt p hp) k1 e1
  clear N' F' hx
  dsimp only
  k_steps
  rename Fr h₀ L _ m => F3
  rename News h₀ L _ _ => N3
  have fin := hret h'' tk'' (h.objs.size + 1) h.objs.size dx F3 (news_sub N3 fun p hp => by
    rcases List.mem_cons.mp hp with rfl | hp
    · exact .head _
    · exact .tail _ (.tail _ hp)) hlt
  repeat wp_step
  all_goals exact fin
end
end Mine

-- X3
namespace Mine
open PySem PySem.W PySem.Spec PySem.Calls PyProof.Rows
set_option maxRecDepth 100000
set_option maxHeartbeats 0
theorem kts_memG {env : Env} {L b : Addr} {outer : List Env} (hf : env.frame = some L) (hm : b ∈ (env :: outer).filterMap (·.frame)) : b = L ∨ b ∈ outer.filterMap (·.frame) := by
  obtain ⟨env', he, hf'⟩ := List.mem_filterMap.mp hm
  rcases List.mem_cons.mp he with rfl | he
  · rw [hf] at hf'; exact .inl (Option.some.inj hf').symm
  · exact .inr (List.mem_filterMap.mpr ⟨env', he, hf'⟩)

theorem RaisedSN.sub {base G : Heap} {l : List Env} {e : Addr} {cls : Value} {news news' : List (Addr × Obj)} {h : Heap} (R : RaisedSN base G l e cls news h) (hs : ∀ q ∈ news', q ∈ news) : RaisedSN base G l e cls news' h := by
  obtain ⟨B, a0, hB, hBG, hl, hfl⟩ := R
  exact ⟨B, a0, hB, hBG, fun q hq => hl q (hs q hq), hfl⟩

section
variable {M : Model} {A : Around} {E : Value → Shared → Prop} {s' : Shared} {base g g₂ : Heap} {outer : List Env} {L a e : Addr} {m : Str → Option Value} {name : Str} {scope : Scope} {cd : Value} {Q : Unit → Shared → Prop} {news : List (Addr × Obj)}
theorem leave_first {dd : Option Addr} {t : Addr} (K : Below A base outer g) (F : Fr g L s'.heap m) (N : News g L s'.heap ((e, excObj dd t) :: news)) (hne : ∀ p ∈ news, p.1 ≠ e)
    (hQ : ∀ h', RaisedSN base g outer e (.ref 44) news h' → g.UpToSlots h' → Q () { s' with heap := h' }) (hk : scope.kind = .function := by rfl) :
    wpAny M (A.deeper (envOf name scope L a cd)) (leaving (envOf name scope L a cd) (.ref e)) Q E s' := by
  have K' := K.push (name := name) (a := a) (cd := cd) F hk
  have hin : ∀ env ∈ (envOf name scope L a cd :: outer), ∀ b, env.frame = some b → b ∈ e :: (envOf name scope L a cd :: outer).filterMap (·.frame) := fun env he b hb => .tail _ (List.mem_filterMap.mpr ⟨env, he, hb⟩)
  have ge : g.get? e = none := (N _ (.head _)).2.2
  have be : base.get? e = none := fresh_of_stays K.stays ge
  have st : base.StaysIn (hideAll s'.heap (e :: (envOf name scope L a cd :: outer).filterMap (·.frame))) := fun b o q => hideAll_get _ (K'.stays b o q) fun hm => by
    rcases List.mem_cons.mp hm with rfl | hm
    · rw [be] at q; cases q
    · rw [(K'.frames.mem hm).1] at q; cases q
  have sg : ∀ b o, g.get? b = some o → b ∉ outer.filterMap (·.frame) → (hideAll s'.heap (e :: (envOf name scope L a cd :: outer).filterMap (·.frame))).get? b = some o := fun b o q nm => hideAll_get _ (F.keep b o q) fun hm => by
    rcases List.mem_cons.mp hm with rfl | hm
    · rw [ge] at q; cases q
    · rcases kts_mem hm with z | z
      · rw [z, kts_self F] at q
        cases q
      · exact nm z
  have hl : ∀ q ∈ news, (hideAll s'.heap (e :: (envOf name scope L a cd :: outer).filterMap (·.frame))).get? q.1 = some q.2 ∧ g.get? q.1 = none ∧ base.get? q.1 = none := fun q hq => by
    have Nq := N q (.tail _ hq)
    refine ⟨hideAll_get _ Nq.1 fun hm => ?_, Nq.2.2, fresh_of_stays K.stays Nq.2.2⟩
    rcases List.mem_cons.mp hm with hm | hm
    · exact hne q hq hm
    · obtain ⟨env, he, hf⟩ := List.mem_filterMap.mp hm
      rcases List.mem_cons.mp he with rfl | he
      · exact Nq.2.1 (Option.some.inj hf).symm
      · obtain ⟨o, ho, _⟩ := (K.frames.mem (List.mem_filterMap.mpr ⟨env, he, hf⟩)).2
        rw [Nq.2.2] at ho; cases ho
  have he := (N _ (.head _)).1
  have hen : (hideAll s'.heap (e :: (envOf name scope L a cd :: outer).filterMap (·.frame))).get? e = none := hideAll_none _ (.head _)
  refine wpAny_leaving_firstW (a0 := .ref t) K'.stack (funFrames_hide K'.frames hin) rfl he (fun b o hb => of_hideAll _ hb) hen rfl rfl rfl fun h' hL => ?_
  obtain ⟨k1, ⟨_, _, k2⟩, k3, k4⟩ := hL
  exact hQ h' ⟨_, .ref t, st, sg, hl, k1, hen, k2, k3⟩ ((Heap.UpToSlots.of_keeps F.keep).trans k4)

theorem leave_onG {env : Env} {cls : Value} (hf : env.frame = some L) (K : Below A base outer g) (F : Fr g L g₂ m) (R : RaisedSN base g₂ (env :: outer) e cls news s'.heap) (hsm : g₂.UpToSlots s'.heap)
    (hQ : ∀ h', RaisedSN base g outer e cls news h' → g.UpToSlots h' → Q () { s' with heap := h' }) :
    wpAny M (A.deeper env) (leaving env (.ref e)) Q E s' := by
  obtain ⟨B, a0, hB, hBG, hl, hfl⟩ := R
  exact wpAny_leaves_onW (Around.frames_deeper K.stack) hf hfl fun h' x1 x2 =>
    have R : RaisedSN base g outer e cls news h' := ⟨B, a0, hB, fun b o q nm => hBG b o (F.keep b o q) (fun hm => by
      rcases kts_memG hf hm with z | z
      · rw [z, kts_self F] at q
        cases q
      · exact nm z), fun q hq => ⟨(hl q hq).1, kts_none F.keep (hl q hq).2.1, (hl q hq).2.2⟩, x1⟩
    hQ h' R ((Heap.UpToSlots.of_keeps F.keep).trans (hsm.trans x2))
end

/-- a call refuses: the HintFault has flown out of it, to the caller's own frame -/
def Refuses (base : Heap) (env : Env) (outer : List Env) (h₀ : Heap) (L : Addr) (m : Str → Option Value) (news : List (Addr × Obj)) (E : Value → Shared → Prop) (s : Shared) : Prop :=
  ∀ e g h' tk', Fr h₀ L g m → g.UpToSlots h' → RaisedSN base g (env :: outer) e (.ref 44) news h' → E (.ref e) { s with heap := h', toks := tk' }
end Mine

-- X4
namespace Mine
open PySem PySem.W PySem.Spec PySem.Calls PyProof.Rows
set_option maxRecDepth 100000
set_option maxHeartbeats 0
section
variable {prog : Program} {w : World} {A : Around} {E : Value → Shared → Prop} {s : Shared}
def OctetAt (b : Array UInt8) (i : Nat) (v : Value) : Prop := ∃ c u, b[i]? = some c ∧ v = .int (c.toNat : Int) u
theorem b_len : typeLookup (.type "bytes") "__len__" = pure (some (.builtin "bytes.__len__")) := by rw [typeLookup_type, builtinLookup_eq_fast]; kernel_rfl

theorem extend_bytes {R : Result → Shared → Prop} (hh : A.handled = none) (b : Array UInt8) (t : Tok) (S : Addr) (res : Value) (c₀ : Nat) (hS : s.heap.get? S = some { cls := .type "list", data := .seq #[] c₀ })
    (hR : ∀ h' tk acc' c', (∀ a o, a ≠ S → s.heap.get? a = some o → h'.get? a = some o) → h'.get? S = some { cls := .type "list", dict := none, data := .seq acc' c', slots := #[] } →
      ItemsOf (OctetAt b) acc' b.size → R (.ok (.ret res)) { s with heap := h', toks := tk }) (hn : b.size ≤ sizeLine) :
    wpAny (model prog w) A.in1 (Builtin.List.listExtendWith (.ref S) (.bytes b t) res)
      (fun fin s' => match fin with | .done f => R (.ok f) s' | .again c' => c'.quiet = true ∧ codeAny (model prog w) A c' R s') (fun e s' => R (.error e) s') s := by
  have hSI : S ≠ s.heap.objs.size := Nat.ne_of_lt (Heap.lt_size hS)
  have hSf : S ∉ [s.heap.objs.size] := fun hm => hSI (List.mem_singleton.mp hm)
  unfold Builtin.List.listExtendWith
  refine wpAny_bind (wpAny_typeOf (T := "bytes") (v := .bytes b t) rfl ?_)
  have h1 : Builtin.List.listSameRef (.ref S) (.bytes b t) = false := rfl
  have h2 : (Value.type "bytes" == Value.type "list") = false := by decide
  have h3 : (Value.type "bytes" == Value.type "tuple") = false := by decide
  simp only [h1, h2, h3, Bool.or_false, Bool.false_eq_true, if_false]
  refine wpAny_bind (KBw.pyIter_bytes ?_)
  refine wpAny_bind (wpAny_holding ?_)
  unfold Builtin.List.listLengthHint
  refine wpAny_bind (wpAny_specialOf (T := "bytes") (v := .bytes b t) rfl b_len ?_)
  wp_delta
  refine wpAny_bind (wpAny_isInstance (T := "bytes") (v := .bytes b t) (b := true) rfl (by rw [isSubtype_type]; kernel_rfl) ?_)
  show wpAny _ _ (typeOf (Value.bytes b t) >>= _) _ _ _
  refine wpAny_bind (wpAny_typeOf (T := "bytes") (v := .bytes b t) rfl ?_)
  refine wpAny_pure ?_
  rw [if_neg (by decide)]
  refine wpAny_pure ⟨plainId_quiet F.plain_extend_loop _, codeAny_extend_loopS (KBw.walks (A := A.in1) hh s.heap.objs.size b t).toS hn _ hSf _ b.size 0 _ _ _ rfl (Nat.zero_le _) ⟨_, Heap.get?_push_size _ rfl, rfl, rfl⟩ (Heap.get?_push_of_some _ hS) (ItemsOf.nil _) fun s' acc' c' hm hS' hacc => ?_⟩
  rw [Moved.eq_with hm]
  refine hR s'.heap s'.toks acc' c' (fun b ob hb e => hm.heap b ob (fun hmem => ?_) (Heap.get?_push_of_some _ e)) hS' hacc
  rcases List.mem_cons.mp hmem with e' | hmem
  · exact hb e'
  · exact absurd (Heap.lt_size e) (by rw [List.mem_singleton.mp hmem]; exact Nat.lt_irrefl _)

theorem list_init_bytes {R : Result → Shared → Prop} (hh : A.handled = none) (x : Array UInt8) (t : Tok) (S : Addr) (hS : s.heap.get? S = some { cls := .type "list", data := .seq #[] })
    (hR : ∀ h' tk acc' c', (∀ b o, b ≠ S → s.heap.get? b = some o → h'.get? b = some o) → h'.get? S = some { cls := .type "list", dict := none, data := .seq acc' c', slots := #[] } →
      ItemsOf (OctetAt x) acc' x.size → R (.ok (.ret .none)) { s with heap := h', toks := tk }) (hn : x.size ≤ sizeLine) :
    wpAny (model prog w) A.in1 (Builtin.«list.__init__» ⟨[.ref S, .bytes x t], []⟩)
      (fun fin s' => match fin with | .done f => R (.ok f) s' | .again c' => c'.quiet = true ∧ codeAny (model prog w) A c' R s') (fun e s' => R (.error e) s') s := by
  show wpAny _ _ (do let old ← Builtin.List.listItems (.ref S); Builtin.List.listUpdate (.ref S) (fun _ => #[]); letGo old.toList.reverse; Builtin.List.listExtendWith (.ref S) (.bytes x t) .none) _ _ s
  refine wpAny_bind ?_
  unfold Builtin.List.listItems
  refine wpAny_bind (wpAny_seqItems hS rfl (wpAny_pure ?_))
  show wpAny _ _ (updateSeq S (fun _ => #[]) >>= fun _ => letGo (#[] : Array Value).toList.reverse >>= fun _ => Builtin.List.listExtendWith (.ref S) (.bytes x t) .none) _ _ s
  refine wpAny_bind (wpAny_updateSeq hS rfl ?_)
  have hS₂ := Heap.get?_update_self (Obj.mapSeq (fun _ => (#[] : Array Value))) hS rfl
  have oth : ∀ b o, b ≠ S → s.heap.get? b = some o → (s.heap.update S (Obj.mapSeq (fun _ => (#[] : Array Value)))).get? b = some o :=
    fun b o hb e => (Heap.get?_update_other _ _ (Ne.symm hb)).trans e
  refine wpAny_bind (wpAny_letGo ?_)
  refine extend_bytes (hn := hn) hh x t S .none _ hS₂ fun h' tk acc' c' hk hS' hacc => ?_
  exact hR h' tk acc' c' (fun b o hb e => hk b o hb (oth b o hb e)) hS' hacc

theorem call_list_bytes {Q : Value → Shared → Prop} (hh : A.handled = none) (x : Array UInt8) (t : Tok)
    (hQ : ∀ h' tk acc' c', (∀ b o, s.heap.get? b = some o → h'.get? b = some o) →
      h'.get? s.heap.objs.size = some { cls := .type "list", dict := none, data := .seq acc' c', slots := #[] } → ItemsOf (OctetAt x) acc' x.size → Q (.ref s.heap.objs.size) { s with heap := h', toks := tk }) (hn : x.size ≤ sizeLine) :
    wpAny (model prog w) A (call (.type "list") [.bytes x t]) Q E s := by
  refine callType_codes (Q₁ := fun obj s₁ => obj = .ref s.heap.objs.size ∧ s₁ = { s with heap := s.heap.push { cls := .type "list", data := .seq #[] } }) F.called_list (F.typeCall_list_1 _) F.entry_list_init
    (code_list_new _ ⟨rfl, rfl⟩) fun obj s₁ h₁ => ?_
  obtain ⟨rfl, rfl⟩ := h₁
  have hS : (s.heap.push { cls := .type "list", data := .seq #[] }).get? s.heap.objs.size = some { cls := .type "list", data := .seq #[] } := Heap.get?_push_size _ rfl
  refine ⟨⟨_, hS, rfl⟩, F.args_list_init_2 _ _, list_init_bytes (A := A.in1) (hn := hn) hh x t _ hS fun h' tk acc' c' hk hS' hacc => ?_⟩
  exact ⟨rfl, hQ h' tk acc' c' (fun b o e => hk b o (Nat.ne_of_lt (Heap.lt_size e)) (Heap.get?_push_of_some _ e)) hS' hacc⟩

theorem octets_ints {b : Array UInt8} {acc : Array Value} (h : ItemsOf (OctetAt b) acc b.size) : IntsAre acc.toList (KBw.bInts b) := by
  obtain ⟨hs, hi⟩ := h
  have key : ∀ (bs : List UInt8) (vs : List Value), vs.length = bs.length → (∀ (j : Nat) (v : Value), vs[j]? = some v → ∃ c u, bs[j]? = some c ∧ v = Value.int (c.toNat : Int) u) → IntsAre vs (bs.map fun c => (c.toNat : Int)) := by
    intro bs
    induction bs with
    | nil => intro vs hl _; cases vs with
      | nil => exact .nil
      | cons => simp at hl
    | cons c r ih => intro vs hl hj; cases vs with
      | nil => simp at hl
      | cons v vs =>
        obtain ⟨c', u, hc, hv⟩ := hj 0 v rfl
        cases hc
        subst hv
        exact .cons _ _ (ih vs (by simpa using hl) fun j v hv => hj (j + 1) v (by simpa using hv))
  refine key b.toList acc.toList (by simpa using hs) fun j v hv => ?_
  obtain ⟨c, u, hc, e⟩ := hi j v (by simpa using hv)
  exact ⟨c, u, by simpa using hc, e⟩

theorem list_bytes_K {h₀ : Heap} {L : Addr} {m : Str → Option Value} {news : List (Addr × Obj)} {Q : Value → Shared → Prop} {x : Array UInt8} {t : Tok} {ks : List Int} (F : Fr h₀ L s.heap m) (N : News h₀ L s.heap news) (hh : A.handled = none) (hk : KBw.bInts x = ks) (hl : ks.length ≤ sizeLine)
    (hQ : ∀ h' tk r vs n, Fr h₀ L h' m → News h₀ L h' ((r, listOf vs.toArray n) :: news) → IntsAre vs ks → (∀ p ∈ news, p.1 < r) → Q (.ref r) { s with heap := h', toks := tk }) :
    wpAny (model prog w) A (call (.type "list") [.bytes x t]) Q E s := by
  refine call_list_bytes hh x t (fun h' tk acc c keep hS hacc => ?_) (by rw [← KBw.ints_length, hk]; exact hl)
  have hi := octets_ints hacc
  rw [hk] at hi
  refine hQ h' tk _ acc.toList c (F.keeps keep) (fun p hp => ?_) hi fun p hp => Heap.lt_size (N p hp).1
  rcases List.mem_cons.mp hp with rfl | hp
  · refine ⟨by simpa [PySem.W.listOf] using hS, Nat.ne_of_gt F.ns.lt, ?_⟩
    cases q : h₀.get? s.heap.objs.size with
    | none => rfl
    | some o => exact absurd (Heap.lt_size (F.keep _ _ q)) (Nat.lt_irrefl _)
  · exact ⟨keep _ _ (N p hp).1, (N p hp).2⟩
end
end Mine

-- R1
namespace Mine
open PySem PySem.W PySem.Spec PySem.Calls PyProof.Rows
set_option maxRecDepth 100000
set_option maxHeartbeats 0
theorem raise_K {M : Model} {A : Around} {E : Value → Shared → Prop} {w : World} {h₀ : Heap} {env : Env} {s : Shared} {e : Expr} {pos : Pos} {Q : Flow → Shared → Prop} (_X : (Mine.hd.heap_39 w.params).In h₀) (hh : A.handled = none)
    (h : wpAny M A (eval e env) (fun v s₁ => ∃ e t dd, v = .ref e ∧ (Mine.hd.heap_39 w.params).In s₁.heap ∧ s₁.heap.get? e = some (excObj dd t) ∧ E (.ref e) s₁) E s) :
    wpAny M A (exec (.Raise (some e) none pos) env) Q E s := raise_H hh h

section
variable {prog : Program} {w : World} {p : Program} {loose : List Str} {mean : ExcName → Option Value} {mg mb : Str → Option Value}
    {dp un : Nat} {gd : Option (List Code)} {cn : Str} {cs : Scope} {a : Addr} {ccd : Value} {cl : List (Str × Addr)} {outer : List Env} {A₀ : Around} {base h₀ : Heap} {L : Addr} {m : Str → Option Value} {news : List (Addr × Obj)} {s : Shared}
    {Q E : Value → Shared → Prop} 
variable (B : Below A₀ base outer h₀) (F : Fr h₀ L s.heap m) (X : (Mine.hd.heap_39 w.params).In h₀) (T : Top p loose mean mg mb h₀) (hk : cs.kind = .function)
include B F X T hk

theorem c_octet_at {b : Array UInt8} {tb : Tok} {n : Int} {t : Tok} {ks : List Int}
    (N : News h₀ L s.heap news) (hd : dp + 10 < recursionLimit) (hu : un + 80 < cLine)
    (hb : KBw.bInts b = ks) (hl : ks.length ≤ 2000) (hn1 : 0 ≤ n) (hn2 : n ≤ 5000)
    (hret : n < ks.length → ∀ h' tk' tr, Fr h₀ L h' m → News h₀ L h' news → Q (.int (ks.getD n.toNat 0) tr) { s with heap := h', toks := tk' })
    (href : ¬ n < ks.length → Refuses base (envX cn cs L a ccd cl) outer h₀ L m news E s) :
    wpAny (model prog w) (ktrTop dp un gd cn cs L a ccd cl outer) (call (.ref 53) [.bytes b tb, .int n t]) Q E s := by
  w_top off
  k_with_none
  k_with "exec Raise some none" => (k_here; k_dflt (refine' raise_K ?X ?hh ?_; (case X => k_asm); (case hh => rfl)))
  k_with "call ref" => ((k_here; (with_reducible show wpAny _ _ (call (Value.ref 44) _) _ _ _); k_dflt (refine' c_hint ?B ?F ?X ?T ?hk ?N ?hd ?hu ?_; (case B => k_asm); (case F => k_asm); (case X => k_asm); (case T => k_asm); (case hk => first | rfl | assumption); (case N => k_asm); (case hd => ktr_room); (case hu => ktr_units)); intro _ _ _ _ _ zqF' zqN' _; refine ⟨_, _, _, rfl, Frag.In.keeps (by k_asm) (Fr.keep zqF'), (zqN' _ (.head _)).1, ?_⟩); (all_goals (try dsimp only)))
  k_with "leaving ref" => (k_here; k_dflt (refine' leave_first ?K ?F ?N ?ne ?_; (case K => assumption); (case F => k_asm); (case N => k_asm); (case ne => k_asm)); intro _ _ _)
  refine wpAny_call ?_
  k_dflt ktr_enter
  k_steps
  · exact hret (by assumption) _ _ _ (by assumption) (by assumption)
  · rename RaisedSN _ _ _ _ _ _ _ => R
    exact href (by assumption) _ _ _ _ (by assumption) (by assumption) R
end
end Mine

-- R2
namespace Mine
open PySem PySem.W PySem.Spec PySem.Calls PyProof.Rows
set_option maxRecDepth 100000
set_option maxHeartbeats 0

noncomputable def shapeF (ks : List Int) (n : Int) : Option (Int × Int × Bool) :=
  let op := ks.getD n.toNat 0
  if op = 64 ∨ op = 65 then (if n + 1 < ks.length then some (n + 2, ks.getD (n + 1).toNat 0, op == 65) else none)
  else some (n + 1, op.fmod 8 + 1, decide (184 ≤ op))
theorem shape_none {ks : List Int} {n : Int} (h : ([64, 65].any fun x => x == ks.getD n.toNat 0) = true) (h2 : ¬ n + 1 < ks.length) : shapeF ks n = none := by
  simp only [List.any_cons, List.any_nil, Bool.or_eq_true, beq_iff_eq] at h
  unfold shapeF
  rw [if_pos (by rcases h with h | h | h; exact .inl h.symm; exact .inr h.symm; cases h), if_neg h2]
theorem shape_long {ks : List Int} {n : Int} (h : ([64, 65].any fun x => x == ks.getD n.toNat 0) = true) (h2 : n + 1 < ks.length) : shapeF ks n = some (n + 2, ks.getD (n + 1).toNat 0, ks.getD n.toNat 0 == 65) := by
  simp only [List.any_cons, List.any_nil, Bool.or_eq_true, beq_iff_eq] at h
  unfold shapeF
  rw [if_pos (by rcases h with h | h | h; exact .inl h.symm; exact .inr h.symm; cases h), if_pos h2]
theorem shape_short {ks : List Int} {n : Int} (h : ([64, 65].any fun x => x == ks.getD n.toNat 0) = false) : shapeF ks n = some (n + 1, (ks.getD n.toNat 0).fmod 8 + 1, decide (184 ≤ ks.getD n.toNat 0)) := by
  simp only [List.any_cons, List.any_nil, Bool.or_eq_false_iff, beq_eq_false_iff_ne] at h
  unfold shapeF
  rw [if_neg (by rintro (q | q); exact h.1 q.symm; exact h.2.1 q.symm)]

/-- where the next instruction stands, if it is whole -/
noncomputable def nextF (ks : List Int) (n : Int) : Option Int :=
  if n < ks.length then (if isPush (ks.getD n.toNat 0) = true then (shapeF ks n).map (fun s => s.1 + (if s.2.2 = true then 2 * s.2.1 else s.2.1)) else some (n + 1)) else none

section
variable {ks : List Int} {n x y : Int} {z : Bool}
theorem next_w (h1 : n < ks.length) (h2 : isPush (ks.getD n.toNat 0) = true) (h3 : shapeF ks n = some (x, y, z)) (h4 : z = true) : nextF ks n = some (x + 2 * y) := by
  subst h4; unfold nextF; rw [if_pos h1, if_pos h2, h3]; rfl
theorem next_b (h1 : n < ks.length) (h2 : isPush (ks.getD n.toNat 0) = true) (h3 : shapeF ks n = some (x, y, z)) (h4 : z = false) : nextF ks n = some (x + y) := by
  subst h4; unfold nextF; rw [if_pos h1, if_pos h2, h3]; rfl
theorem next_1 (h1 : n < ks.length) (h2 : isPush (ks.getD n.toNat 0) = false) : nextF ks n = some (n + 1) := by
  unfold nextF; rw [if_pos h1, h2]; rfl
theorem next_x (h2 : isPush (ks.getD n.toNat 0) = true) (h3 : shapeF ks n = none) : nextF ks n = none := by
  unfold nextF; rw [if_pos h2, h3]; simp
theorem next_o (h1 : ¬ n < ks.length) : nextF ks n = none := by
  unfold nextF; rw [if_neg h1]
end

theorem news_d1 {h₀ h : Heap} {L : Addr} {x : Addr × Obj} {l : List (Addr × Obj)} (N : News h₀ L h (x :: l)) : News h₀ L h l := fun p hp => N p (.tail _ hp)
theorem news_d2 {h₀ h : Heap} {L : Addr} {x y : Addr × Obj} {l : List (Addr × Obj)} (N : News h₀ L h (x :: y :: l)) : News h₀ L h (x :: l) := fun p hp => N p (by
  rcases List.mem_cons.mp hp with rfl | hp
  · exact .head _
  · exact .tail _ (.tail _ hp))

section
variable {prog : Program} {w : World} {p : Program} {loose : List Str} {mean : ExcName → Option Value} {mg mb : Str → Option Value}
    {dp un : Nat} {gd : Option (List Code)} {cn : Str} {cs : Scope} {a : Addr} {ccd : Value} {cl : List (Str × Addr)} {outer : List Env} {A₀ : Around} {base h₀ : Heap} {L : Addr} {m : Str → Option Value} {news : List (Addr × Obj)} {s : Shared}
    {Q E : Value → Shared → Prop} 
variable (B : Below A₀ base outer h₀) (F : Fr h₀ L s.heap m) (X : (Mine.hd.heap_39 w.params).In h₀) (T : Top p loose mean mg mb h₀) (hk : cs.kind = .function)
include B F X T hk

theorem c_push_shape {b : Array UInt8} {tb : Tok} {n : Int} {t : Tok} {ks : List Int}
    (N : News h₀ L s.heap news) (hd : dp + 15 < recursionLimit) (hu : un + 120 < cLine)
    (hb : KBw.bInts b = ks) (hl : ks.length ≤ 2000) (hn1 : 0 ≤ n) (hn2 : n < ks.length)
    (hret : ∀ x y z, shapeF ks n = some (x, y, z) → ∀ h' tk' r tx ty, Fr h₀ L h' m → News h₀ L h' ((r, ({ cls := .type "tuple", data := .seq #[.int x tx, .int y ty, .bool z] } : Obj)) :: news) → (∀ p ∈ news, p.1 < r) → Q (.ref r) { s with heap := h', toks := tk' })
    (href : shapeF ks n = none → Refuses base (envX cn cs L a ccd cl) outer h₀ L m news E s) :
    wpAny (model prog w) (ktrTop dp un gd cn cs L a ccd cl outer) (call (.ref 67) [.bytes b tb, .int n t]) Q E s := by
  w_top off
  k_with_none
  k_with "exec Raise some none" => (k_here; k_dflt (refine' raise_K ?X ?hh ?_; (case X => k_asm); (case hh => rfl)))
  k_with "call ref" => ((k_here; (with_reducible show wpAny _ _ (call (Value.ref 44) _) _ _ _); k_dflt (refine' c_hint ?B ?F ?X ?T ?hk ?N ?hd ?hu ?_; (case B => k_asm); (case F => k_asm); (case X => k_asm); (case T => k_asm); (case hk => first | rfl | assumption); (case N => k_asm); (case hd => ktr_room); (case hu => ktr_units)); intro _ _ _ _ _ zqF' zqN' _; refine ⟨_, _, _, rfl, Frag.In.keeps (by k_asm) (Fr.keep zqF'), (zqN' _ (.head _)).1, ?_⟩); (all_goals (try dsimp only)))
  k_with "leaving ref" => (k_here; first | (k_dflt (refine' leave_onG rfl ?K ?F ?R ?U ?_; (case R => assumption); (case K => assumption); (case F => assumption); (case U => assumption)); intro _ _ _) | (k_dflt (refine' leave_first ?K ?F ?N ?ne ?_; (case K => assumption); (case F => k_asm); (case N => k_asm); (case ne => k_asm)); intro _ _ _))
  k_with "call ref" => ((k_here; (with_reducible show wpAny _ _ (call (Value.ref 60) _) _ _ _); k_dflt (refine' c_is_push ?B ?F ?X ?T ?hk ?N ?hd ?hu (fun _ _ _ _ => ?_); (case B => k_asm); (case F => k_asm); (case X => k_asm); (case T => k_asm); (case hk => first | rfl | assumption); (case N => k_asm); (case hd => ktr_room); (case hu => ktr_units)); (try k_sweep)); (all_goals (try dsimp only)))
  k_with "call ref" => ((k_here; (with_reducible show wpAny _ _ (call (Value.ref 53) _) _ _ _); k_dflt (refine' c_octet_at ?B ?F ?X ?T ?hk ?N ?hd ?hu ?hb ?hl ?h1 ?h2 (fun _ _ _ _ _ _ => ?_) (fun _ _ _ _ _ _ _ _ => ?_); (case B => k_asm); (case F => k_asm); (case X => k_asm); (case T => k_asm); (case hk => first | rfl | assumption); (case N => k_asm); (case hd => ktr_room); (case hu => ktr_units); (case hb => k_asm); (case hl => k_asm); (case h1 => omega); (case h2 => omega))); (all_goals (try dsimp only)))
  refine wpAny_call ?_
  k_dflt ktr_enter
  k_steps
  · rename (([64, 65].any _) = true) => ha
    rename (n + 1 < _) => hc
    rename News h₀ L _ (_ :: _) => kN
    rename (_ < _ ∧ AllLt _ news) => lt
    exact hret _ _ _ (shape_long ha hc) _ _ _ _ _ (by assumption) (news_d2 kN) (kst_ltOf lt.2)
  · rename (([64, 65].any _) = true) => ha
    rename (¬ n + 1 < _) => hc
    rename RaisedSN _ _ _ _ _ _ _ => R
    exact href (shape_none ha hc) _ _ _ _ (by assumption) (by assumption) (RaisedSN.sub R fun q hq => .tail _ hq)
  · rename (([64, 65].any _) = false) => ha
    rename News h₀ L _ (_ :: _) => kN
    rename (_ < _ ∧ AllLt _ news) => lt
    exact hret _ _ _ (shape_short ha) _ _ _ _ _ (by assumption) (news_d2 kN) (kst_ltOf lt.2)

theorem c_behind {b : Array UInt8} {tb : Tok} {n : Int} {t : Tok} {ks : List Int}
    (N : News h₀ L s.heap news) (hd : dp + 20 < recursionLimit) (hu : un + 160 < cLine)
    (hb : KBw.bInts b = ks) (hl : ks.length ≤ 2000) (hn1 : 0 ≤ n) (hn2 : n ≤ 5000)
    (hret : ∀ x, nextF ks n = some x → ∀ h' tk' tx, Fr h₀ L h' m → News h₀ L h' news → Q (.int x tx) { s with heap := h', toks := tk' })
    (href : nextF ks n = none → Refuses base (envX cn cs L a ccd cl) outer h₀ L m news E s) :
    wpAny (model prog w) (ktrTop dp un gd cn cs L a ccd cl outer) (call (.ref 81) [.bytes b tb, .int n t]) Q E s := by
  w_top off
  k_with_none
  k_with "exec Raise some none" => (k_here; k_dflt (refine' raise_K ?X ?hh ?_; (case X => k_asm); (case hh => rfl)))
  k_with "call ref" => ((k_here; (with_reducible show wpAny _ _ (call (Value.ref 44) _) _ _ _); k_dflt (refine' c_hint ?B ?F ?X ?T ?hk ?N ?hd ?hu ?_; (case B => k_asm); (case F => k_asm); (case X => k_asm); (case T => k_asm); (case hk => first | rfl | assumption); (case N => k_asm); (case hd => ktr_room); (case hu => ktr_units)); intro _ _ _ _ _ zqF' zqN' _; refine ⟨_, _, _, rfl, Frag.In.keeps (by k_asm) (Fr.keep zqF'), (zqN' _ (.head _)).1, ?_⟩); (all_goals (try dsimp only)))
  k_with "leaving ref" => (k_here; first | (k_dflt (refine' leave_onG rfl ?K ?F ?R ?U ?_; (case R => assumption); (case K => assumption); (case F => assumption); (case U => assumption)); intro _ _ _) | (k_dflt (refine' leave_first ?K ?F ?N ?ne ?_; (case K => assumption); (case F => k_asm); (case N => k_asm); (case ne => k_asm)); intro _ _ _))
  k_with "call ref" => ((k_here; (with_reducible show wpAny _ _ (call (Value.ref 60) _) _ _ _); k_dflt (refine' c_is_push ?B ?F ?X ?T ?hk ?N ?hd ?hu (fun _ _ _ _ => ?_); (case B => k_asm); (case F => k_asm); (case X => k_asm); (case T => k_asm); (case hk => first | rfl | assumption); (case N => k_asm); (case hd => ktr_room); (case hu => ktr_units)); (try k_sweep)); (all_goals (try dsimp only)))
  k_with "call ref" => ((k_here; (with_reducible show wpAny _ _ (call (Value.ref 53) _) _ _ _); k_dflt (refine' c_octet_at ?B ?F ?X ?T ?hk ?N ?hd ?hu ?hb ?hl ?h1 ?h2 (fun _ _ _ _ _ _ => ?_) (fun _ _ _ _ _ _ _ _ => ?_); (case B => k_asm); (case F => k_asm); (case X => k_asm); (case T => k_asm); (case hk => first | rfl | assumption); (case N => k_asm); (case hd => ktr_room); (case hu => ktr_units); (case hb => k_asm); (case hl => k_asm); (case h1 => omega); (case h2 => omega))); (all_goals (try dsimp only)))
  k_with "call ref" => ((k_here; (with_reducible show wpAny _ _ (call (Value.ref 67) _) _ _ _); k_dflt (refine' c_push_shape ?B ?F ?X ?T ?hk ?N ?hd ?hu ?hb ?hl ?h1 ?h2 (fun _ _ _ _ _ _ _ _ _ _ _ _ => ?_) (fun _ _ _ _ _ _ _ _ => ?_); (case B => k_asm); (case F => k_asm); (case X => k_asm); (case T => k_asm); (case hk => first | rfl | assumption); (case N => k_asm); (case hd => ktr_room); (case hu => ktr_units); (case hb => k_asm); (case hl => k_asm); (case h1 => omega); (case h2 => omega))); (all_goals (try dsimp only)))
  refine wpAny_call ?_
  k_dflt ktr_enter
  k_steps
  · exact hret _ (next_w (by assumption) (by assumption) (by assumption) (by assumption)) _ _ _ (by assumption) (news_d1 (by assumption))
  · exact hret _ (next_b (by assumption) (by assumption) (by assumption) (by assumption)) _ _ _ (by assumption) (news_d1 (by assumption))
  · rename RaisedSN _ _ (envX cn cs L a ccd cl :: _) _ _ _ _ => R
    exact href (next_x (by assumption) (by assumption)) _ _ _ _ (by assumption) (by assumption) R
  · exact hret _ (next_1 (by assumption) (by assumption)) _ _ _ (by assumption) (by assumption)
  · rename RaisedSN _ _ (envX cn cs L a ccd cl :: _) _ _ _ _ => R
    exact href (next_o (by assumption)) _ _ _ _ (by assumption) (by assumption) R
end
end Mine

-- L1
namespace Mine
open PySem PySem.W PySem.Spec PySem.Calls PyProof.Rows
set_option maxRecDepth 100000
set_option maxHeartbeats 0
theorem ne_lt {d : Addr} {l : List (Addr × Obj)} (h : AllLt d l) : ∀ p ∈ l, p.1 ≠ d := fun p hp => Nat.ne_of_lt (kst_ltOf h p hp)
def Hold (P : Prop) : Prop := P
theorem hold {P : Prop} (h : Hold P) : P := h
theorem unhold {P : Prop} (h : P) : Hold P := h
section
variable {h₀ : Heap} {L I : Addr} {it : Obj} {rest : (Str → Option Value) → List (Addr × Obj) → Prop} {s₁ : Shared} {h' : Heap} {tk : Nat} {m' : Str → Option Value} {t : List (Addr × Obj)} {x y z u : Addr × Obj}
end
end Mine

-- W1
namespace Mine
open PySem PySem.W PySem.Spec PySem.Calls PyProof.Rows
set_option maxRecDepth 100000
set_option maxHeartbeats 0
noncomputable def signed (v : Int) : Int := if 32768 ≤ v then v - 65536 else v
theorem signed_hi {v : Int} (h : 32768 ≤ v) : signed v = v - 65536 := if_pos h
theorem signed_lo {v : Int} (h : ¬ 32768 ≤ v) : signed v = v := if_neg h
theorem word_if {prog : Program} {w : World} {A : Around} {E : Value → Shared → Prop} {s : Shared} {h₀ : Heap} {L a : Addr} {m : Str → Option Value} {name : Str} {scope : Scope} {cd : Value} {v : Int} {tv : Tok} {Q : Value → Shared → Prop} {p1 p2 p3 p4 p5 p6 p7 p8 : Pos}
    (X : (Mine.hd.heap_39 w.params).In h₀) (F : Fr h₀ L s.heap m) (hm : m "word" = some (.int v tv)) (hk : scope.kind = .function) (hl : (envOf name scope L a cd).kindOf "word" = some .local)
    (h : ∀ t' tk, Q (.int (signed v) t') { s with toks := tk }) :
    wpAny (model prog w) A (eval (.IfExp (.Compare (.Name "word" p1) [.GtE] [.Constant (.int 32768) 0 p2] p3) (.BinOp (.Name "word" p4) .Sub (.Constant (.int 65536) 0 p5) p6) (.Name "word" p7) p8) (envOf name scope L a cd)) Q E s := by
  k_with_none
  w_top off
  have hn : ∀ {p : Pos} {s' : Shared} {Q : Value → Shared → Prop}, s'.heap = s.heap → Q (.int v tv) s' → wpAny (model prog w) A (eval (.Name "word" p) (envOf name scope L a cd)) Q E s' := fun e q => ld (by rw [e]; exact F) hm q hk hl
  k_steps
  refine hn rfl ?_
  k_steps
  · refine hn rfl ?_
    k_steps
    rename 32768 ≤ v => hv
    have q := fun t' tk => h t' tk
    rw [signed_hi hv] at q
    exact q _ _
  · refine hn rfl ?_
    rename ¬ 32768 ≤ v => hv
    have q := fun t' tk => h t' tk
    rw [signed_lo hv] at q
    exact q _ _
end Mine

section
open PySem PySem.W PySem.Spec PySem.Calls PyProof.Rows Mine
local macro_rules | `(tactic| k_all) => `(tactic| first | ((iterate 2 (all_goals first | k_flat | refine ne_lt ?_)); done) | exact ne_lt (allLt_of (by assumption)))
-- R3
namespace Mine
open PySem PySem.W PySem.Spec PySem.Calls PyProof.Rows
set_option maxRecDepth 100000
set_option maxHeartbeats 0
theorem look_cons {n y : Str} {v : Value} {r : List (Str × Value)} : List.lookup y ((n, v) :: r) = if y = n then some v else List.lookup y r := by
  show (match y == n with | true => some v | false => List.lookup y r) = _
  by_cases h : y = n
  · rw [if_pos h, beq_iff_eq.mpr h]
  · rw [if_neg h, beq_eq_false_iff_ne.mpr h]
theorem fr_p4 {g h : Heap} {L : Addr} {b : List (Str × Value)} {n1 n2 n3 n4 : Str} {v1 v2 v3 v4 : Value} (F : Fr g L h (fun y => List.lookup y b.reverse)) (e : b.reverse = [(n4, v4), (n3, v3), (n2, v2), (n1, v1)]) :
    Fr g L h (fun y => if y = n4 then some v4 else if y = n3 then some v3 else if y = n2 then some v2 else if y = n1 then some v1 else none) := by
  have q : (fun y => List.lookup y b.reverse) = fun y => if y = n4 then some v4 else if y = n3 then some v3 else if y = n2 then some v2 else if y = n1 then some v1 else none := by
    funext y; rw [e, look_cons, look_cons, look_cons, look_cons]; rfl
  exact q ▸ F
theorem fr_p2 {g h : Heap} {L : Addr} {b : List (Str × Value)} {n1 n2 : Str} {v1 v2 : Value} (F : Fr g L h (fun y => List.lookup y b.reverse)) (e : b.reverse = [(n2, v2), (n1, v1)]) :
    Fr g L h (fun y => if y = n2 then some v2 else if y = n1 then some v1 else none) := by
  have q : (fun y => List.lookup y b.reverse) = fun y => if y = n2 then some v2 else if y = n1 then some v1 else none := by
    funext y; rw [e, look_cons, look_cons]; rfl
  exact q ▸ F
theorem fr_p3 {g h : Heap} {L : Addr} {b : List (Str × Value)} {n1 n2 n3 : Str} {v1 v2 v3 : Value} (F : Fr g L h (fun y => List.lookup y b.reverse)) (e : b.reverse = [(n3, v3), (n2, v2), (n1, v1)]) :
    Fr g L h (fun y => if y = n3 then some v3 else if y = n2 then some v2 else if y = n1 then some v1 else none) := by
  have q : (fun y => List.lookup y b.reverse) = fun y => if y = n3 then some v3 else if y = n2 then some v2 else if y = n1 then some v1 else none := by
    funext y; rw [e, look_cons, look_cons, look_cons]; rfl
  exact q ▸ F
local macro_rules | `(tactic| k_all) => `(tactic| assumption)
noncomputable def wordAt (ks : List Int) (x i : Int) : Int := signed (ks.getD (x + 2 * i).toNat 0 * 256 + ks.getD (x + 2 * i + 1).toNat 0)
/-- what a push tells, and where it ends -/
noncomputable def pushF (ks : List Int) (n : Int) : Option (List Int × Int) :=
  match shapeF ks n with
  | none => none
  | some (x, y, true) => if x + 2 * y ≤ ks.length then some ((List.range y.toNat).map (fun i : Nat => wordAt ks x (i : Int)), x + 2 * y) else none
  | some (x, y, false) => if x + y ≤ ks.length then some ((ks.drop x.toNat).take y.toNat, x + y) else none
section
variable {ks : List Int} {n x y : Int} {z : Bool}
theorem pushF_s (h : shapeF ks n = none) : pushF ks n = none := by unfold pushF; rw [h]
theorem pushF_x (h : shapeF ks n = some (x, y, true)) (h2 : (ks.length : Int) < x + 2 * y) : pushF ks n = none := by unfold pushF; rw [h]; exact if_neg (by omega)
theorem pushF_y (h : shapeF ks n = some (x, y, false)) (h2 : (ks.length : Int) < x + 1 * y) : pushF ks n = none := by unfold pushF; rw [h]; exact if_neg (by omega)
theorem pushF_b (h : shapeF ks n = some (x, y, false)) (h2 : ¬ (ks.length : Int) < x + 1 * y) : pushF ks n = some ((ks.drop x.toNat).take y.toNat, x + y) := by unfold pushF; rw [h]; exact if_pos (by omega)
theorem shape_pos0 (hn : 0 ≤ n) (h : shapeF ks n = some (x, y, z)) : 0 ≤ x ∧ x ≤ n + 2 := by
  unfold shapeF at h
  dsimp only at h
  split at h
  · split at h <;> cases h; omega
  · cases h; omega
theorem shape_pos (hn : 0 ≤ n) (h : shapeF ks n = some (x, y, z)) : 0 ≤ x := (shape_pos0 hn h).1
theorem shape_cnt {b : Array UInt8} (hb : KBw.bInts b = ks) (h : shapeF ks n = some (x, y, z)) : 0 ≤ y ∧ y < 256 := by
  have hin : ∀ k ∈ ks, 0 ≤ k ∧ k < 256 := fun k hk => KBw.ints_in (hb ▸ hk)
  unfold shapeF at h
  dsimp only at h
  split at h
  · split at h
    · cases h; exact KBw.getD_in hin
    · cases h
  · cases h
    have := @fm_in (ks.getD n.toNat 0) 8 (by omega)
    omega
theorem cut_is (hx : 0 ≤ x) (hy : 0 ≤ y) (h : ¬ (ks.length : Int) < x + 1 * y) : List.take (clipAt ks.length (x + y) - clipAt ks.length x) (List.drop (clipAt ks.length x) ks) = (ks.drop x.toNat).take y.toNat := by
  obtain ⟨x, rfl⟩ := Int.eq_ofNat_of_zero_le hx
  obtain ⟨y, rfl⟩ := Int.eq_ofNat_of_zero_le hy
  have e1 : clipAt ks.length ((x : Int) + (y : Int)) = x + y := by
    rw [← Int.natCast_add, clipAt_nat]; omega
  have e2 : clipAt ks.length (x : Int) = x := by
    rw [clipAt_nat]; omega
  rw [e1, e2]
  simp
end
theorem news_d3 {h₀ h : Heap} {L : Addr} {x y z : Addr × Obj} {l : List (Addr × Obj)} (N : News h₀ L h (x :: y :: z :: l)) : News h₀ L h (x :: y :: l) := fun p hp => N p (by
  simp only [List.mem_cons] at hp ⊢; grind)
theorem range_loop {prog : Program} {w : World} {A : Around} {E : Value → Shared → Prop} {s : Shared} {env : Env} {h₀ : Heap} {x : Str} {body : List Stmt} {Q : Flow → Shared → Prop} {I : Addr} {a : Int} {n : Nat} (stored : List Str) (m₀ : Str → Option Value) (J : Nat → List (Addr × Obj) → Prop)
    (turn : ∀ i nw (u : Str → Option Value) t h tk, i < n → J i nw → Fr h₀ env.locals h (fun y => if y = x then some (.int (a + (i : Int)) t) else if stored.contains y then u y else m₀ y) → News h₀ env.locals h ((I, itR (a + ((i + 1 : Nat) : Int)) ((n : Int) - ((i + 1 : Nat) : Int))) :: nw) →
      wpAny (model prog w) A (execs body env) (UnrPost h₀ env.locals { s with heap := h, toks := tk } I (itR (a + ((i + 1 : Nat) : Int)) ((n : Int) - ((i + 1 : Nat) : Int))) (fun m' nw' => (∀ z, stored.contains z = false → m' z = m₀ z) ∧ J (i + 1) nw') Q) E { s with heap := h, toks := tk })
    (fin : ∀ nw (u : Str → Option Value) h tk, J n nw → Fr h₀ env.locals h (fun y => if stored.contains y then u y else m₀ y) → News h₀ env.locals h nw → Q .next { s with heap := h, toks := tk }) :
    ∀ (k i : Nat) (m : Str → Option Value) (nw : List (Addr × Obj)), i + k = n → (∀ z, stored.contains z = false → m z = m₀ z) → J i nw → RangeRest prog w A E h₀ env x body Q s I a n k i m nw := by
  have em : ∀ m : Str → Option Value, (∀ z, stored.contains z = false → m z = m₀ z) → m = fun y => if stored.contains y then m y else m₀ y := fun m hm => by
    funext y
    cases h : stored.contains y with
    | true => simp
    | false => simp [hm y h]
  intro k
  induction k with
  | zero =>
    intro i m nw e hm hJ
    refine RangeRest.zero fun h tk F N => ?_
    have e' : i = n := by omega
    subst e'
    rw [em m hm] at F
    exact fin nw m h tk hJ F N
  | succ k ih =>
    intro i m nw e hm hJ
    refine RangeRest.succ fun t h tk F N => ?_
    have F' : Fr h₀ env.locals h (fun y => if y = x then some (.int (a + (i : Int)) t) else if stored.contains y then m y else m₀ y) := by
      have q : (fun y => if y = x then some (Value.int (a + (i : Int)) t) else if stored.contains y then m y else m₀ y) = fun y => if y = x then some (Value.int (a + (i : Int)) t) else m y := by
        funext y; have := congrFun (em m hm) y; rw [← this]
      rw [q]; exact F
    refine wpAny_mono (turn i nw m t h tk (by omega) hJ F' N) (fun f s₂ p => ?_) fun _ _ e => e
    have step : UnrEnd h₀ env.locals { s with heap := h, toks := tk } I (itR (a + ((i + 1 : Nat) : Int)) ((n : Int) - ((i + 1 : Nat) : Int))) (fun m' nw' => (∀ z, stored.contains z = false → m' z = m₀ z) ∧ J (i + 1) nw') s₂ →
        UnrEnd h₀ env.locals { s with heap := h, toks := tk } I (itR (a + ((i + 1 : Nat) : Int)) ((n : Int) - ((i + 1 : Nat) : Int))) (RangeRest prog w A E h₀ env x body Q s I a n k (i + 1)) s₂ := by
      rintro ⟨h', tk', m', nw', e', F', N', ho, hm', hJ'⟩
      exact ⟨h', tk', m', nw', e', F', N', ho, ih (i + 1) m' nw' (by omega) hm' hJ'⟩
    cases f with
    | ret v => exact p
    | brk => exact p
    | next => exact step p
    | cont => exact step p


theorem rangeSize_nn0 {r : Int} (h : 0 ≤ r) : Builtin.Range.rangeSize 0 (1 + r) 1 = (((1 + r).toNat : Nat) : Int) := by
  rw [rangeSize_nat]; congr 2; omega
theorem pushF_w {ks : List Int} {n x y : Int} (h : shapeF ks n = some (x, y, true)) (h2 : ¬ (ks.length : Int) < x + 2 * y) : pushF ks n = some ((List.range y.toNat).map (fun i : Nat => wordAt ks x (i : Int)), x + 2 * y) := by unfold pushF; rw [h]; exact if_pos (by omega)
theorem ints_snoc0 {ys : List Value} {ns : List Int} {v : Int} {t : Tok} (h : IntsAre ys ns) : IntsAre (ys ++ [.int v t]) (ns ++ [v]) := by
  induction h with
  | nil => exact .cons _ _ .nil
  | cons _ _ _ ih => exact .cons _ _ ih
theorem r3_end {h₀ h' : Heap} {L I fA r' : Addr} {m' m₀ : Str → Option Value} {it rO : Obj} {news : List (Addr × Obj)} {fv : List Value} {fn i tk : Nat} {v x : Int} {tv : Tok} {ks : List Int} {s₁ : Shared} {stored : List Str}
    (F : Fr h₀ L h' m') (N : News h₀ L h' ((I, it) :: (fA, listOf (fv.toArray.push (.int v tv)) (fn + 1)) :: (r', rO) :: news)) (hv : v = wordAt ks x (i : Int)) (hi : IntsAre fv ((List.range i).map fun j : Nat => wordAt ks x (j : Int)))
    (o1 : @Ne Nat fA I) (o2 : @Ne Nat r' I) (o3 : ∀ p ∈ news, p.1 ≠ I) (hm : ∀ z, stored.contains z = false → m' z = m₀ z) :
    UnrEnd h₀ L s₁ I it (fun m' nw' => (∀ z, stored.contains z = false → m' z = m₀ z) ∧ ∃ (fv : List Value) (fn : Nat), nw' = (fA, listOf fv.toArray fn) :: (r', rO) :: news ∧ IntsAre fv ((List.range (i + 1)).map fun j : Nat => wordAt ks x (j : Int))) { s₁ with heap := h', toks := tk } := by
  subst hv
  refine UnrEnd.intro F N _ (fun p hp => hp) ?_ ⟨hm, fv ++ [.int (wordAt ks x (i : Int)) tv], fn + 1, by rw [List.push_toArray], ?_⟩
  · intro p hp
    simp only [List.mem_cons] at hp
    rcases hp with rfl | rfl | hp
    · exact o1
    · exact o2
    · exact o3 p hp
  · rw [List.range_succ, List.map_append]
    exact ints_snoc0 hi

section
variable {prog : Program} {w : World} {p : Program} {loose : List Str} {mean : ExcName → Option Value} {mg mb : Str → Option Value}
    {dp un : Nat} {gd : Option (List Code)} {cn : Str} {cs : Scope} {a : Addr} {ccd : Value} {cl : List (Str × Addr)} {outer : List Env} {A₀ : Around} {base h₀ : Heap} {L : Addr} {m : Str → Option Value} {news : List (Addr × Obj)} {s : Shared}
    {Q E : Value → Shared → Prop} 
variable (B : Below A₀ base outer h₀) (F : Fr h₀ L s.heap m) (X : (Mine.hd.heap_39 w.params).In h₀) (T : Top p loose mean mg mb h₀) (hk : cs.kind = .function)
include B F X T hk
theorem c_pushed {b : Array UInt8} {tb : Tok} {n : Int} {t : Tok} {ks : List Int}
    (N : News h₀ L s.heap news) (hd : dp + 25 < recursionLimit) (hu : un + 160 < cLine)
    (hb : KBw.bInts b = ks) (hl : ks.length ≤ 2000) (hn1 : 0 ≤ n) (hn2 : n < ks.length)
    (hfew : ∀ x y, shapeF ks n = some (x, y, true) → y = 1 ∨ y = 2 ∨ y = 3)
    (hret : ∀ ws e, pushF ks n = some (ws, e) → ∀ h' tk' r l vs nn te, Fr h₀ L h' m → News h₀ L h' ((r, ({ cls := .type "tuple", data := .seq #[.ref l, .int e te] } : Obj)) :: (l, listOf vs.toArray nn) :: news) → IntsAre vs ws → l < r → AllLt r news → AllLt l news → Q (.ref r) { s with heap := h', toks := tk' })
    (href : pushF ks n = none → Refuses base (envX cn cs L a ccd cl) outer h₀ L m news E s) :
    wpAny (model prog w) (ktrTop dp un gd cn cs L a ccd cl outer) (call (.ref 74) [.bytes b tb, .int n t]) Q E s := by
  w_top off
  k_with_none
  k_with "exec Raise some none" => (k_here; k_dflt (refine' raise_K ?X ?hh ?_; (case X => k_asm); (case hh => rfl)))
  k_with "call ref" => ((k_here; (with_reducible show wpAny _ _ (call (Value.ref 44) _) _ _ _); k_dflt (refine' c_hint ?B ?F ?X ?T ?hk ?N ?hd ?hu ?_; (case B => k_asm); (case F => k_asm); (case X => k_asm); (case T => k_asm); (case hk => first | rfl | assumption); (case N => k_asm); (case hd => ktr_room); (case hu => ktr_units)); intro _ _ _ _ _ zqF' zqN' _; refine ⟨_, _, _, rfl, Frag.In.keeps (by k_asm) (Fr.keep zqF'), (zqN' _ (.head _)).1, ?_⟩); (all_goals (try dsimp only)))
  k_with "leaving ref" => (k_here; first | (k_dflt (refine' leave_onG rfl ?K ?F ?R ?U ?_; (case R => assumption); (case K => assumption); (case F => assumption); (case U => assumption)); intro _ _ _) | (k_dflt (refine' leave_first ?K ?F ?N ?ne ?_; (case K => assumption); (case F => k_asm); (case N => k_asm); (case ne => k_asm)); intro _ _ _))
  k_with "call ref" => ((k_here; (with_reducible show wpAny _ _ (call (Value.ref 60) _) _ _ _); k_dflt (refine' c_is_push ?B ?F ?X ?T ?hk ?N ?hd ?hu (fun _ _ _ _ => ?_); (case B => k_asm); (case F => k_asm); (case X => k_asm); (case T => k_asm); (case hk => first | rfl | assumption); (case N => k_asm); (case hd => ktr_room); (case hu => ktr_units)); (try k_sweep)); (all_goals (try dsimp only)))
  k_with "call ref" => ((k_here; (with_reducible show wpAny _ _ (call (Value.ref 53) _) _ _ _); k_dflt (refine' c_octet_at ?B ?F ?X ?T ?hk ?N ?hd ?hu ?hb ?hl ?h1 ?h2 (fun _ _ _ _ _ _ => ?_) (fun _ _ _ _ _ _ _ _ => ?_); (case B => k_asm); (case F => k_asm); (case X => k_asm); (case T => k_asm); (case hk => first | rfl | assumption); (case N => k_asm); (case hd => ktr_room); (case hu => ktr_units); (case hb => k_asm); (case hl => k_asm); (case h1 => omega); (case h2 => omega))); (all_goals (try dsimp only)))
  k_with "UnrEnd" => (k_here; refine hold ?_)
  k_with "pyIter ref" => (k_here; refine hold ?_)
  k_with "exec For Name Call cons nil" => (k_here; (rename Fr _ _ _ _ => zqlF'); (with_unfolding_all refine' For_invVF zqlF' ?k1 ?k2 ?_; (case k1 => exact rfl); (case k2 => exact rfl); k_whole))
  k_with "call type:range" => ((rename Fr _ _ _ _ => zqF'); (rename News _ _ _ _ => zqN'); (with_unfolding_all refine range1_rows zqF' zqN' ?_; intro _ _ _ _ _ _ _ _ _))
  k_with "call type:list" => (k_here; (with_reducible show wpAny _ _ (call (Value.type "list") [Value.bytes _ _]) _ _ _); k_dflt (refine' list_bytes_K ?F ?N ?hh ?hk ?hl (fun _ _ _ _ _ _ _ _ zql' => ?_); (case F => k_asm); (case N => k_asm); (case hh => rfl); (case hk => kba_ints); (case hl => (rw [sizeLine_eq]; simp only [List.length_take, List.length_drop]; omega))); (try k_lt zql'))
  k_with "call ref" => (k_here; (with_reducible show wpAny _ _ (call (Value.ref 67) _) _ _ _); refine hold ?_)
  k_with "eval IfExp" => (k_here; k_dflt (refine' word_if ?X ?F ?hm ?hk ?hl (fun _ _ => ?_); (case X => k_asm); (case F => k_asm); (case hm => exact rfl); (case hk => rfl); (case hl => rfl)))
  k_with "execs cons" => (k_here; dsimp only)
  k_with "execs cons" => (k_here; with_reducible refine q_tok (fun tk => ?_))
  k_with "execs cons" => (k_here; k_fold)
  refine wpAny_call ?_
  k_dflt ktr_enter
  rename Fr _ _ _ (fun y => List.lookup y _) => FE9
  with_unfolding_all (replace FE9 := fr_p2 FE9 rfl)
  k_steps
  refine unhold ?_
  k_dflt (refine' c_push_shape ?B ?F ?X ?T ?hk ?N ?hd ?hu ?hb ?hl ?h1 ?h2 (fun x' y' z' hc h' tk' r' tx' ty' F' N' l' => ?_) (fun hc e' g' h' tk' F' U' R' => ?_); (case B => k_asm); (case F => k_asm); (case X => k_asm); (case T => k_asm); (case hk => first | rfl | assumption); (case N => k_asm); (case hd => ktr_room); (case hu => ktr_units); (case hb => k_asm); (case hl => k_asm); (case h1 => omega); (case h2 => omega))
  · have hx := shape_pos hn1 hc
    cases z' with
    | true =>
      have hy := hfew x' y' hc
      dsimp only
      k_steps
      · rename RaisedSN _ _ (envX cn cs L a ccd cl :: _) _ _ _ _ => R
        exact href (pushF_x hc (by omega)) _ _ _ _ (by assumption) (by assumption) (RaisedSN.sub R fun q hq => .tail _ hq)
      · refine unhold ?_
        rename_i fA _ lF _ _ _ _ _ _ rg fr nw _
        obtain ⟨r2, rfl⟩ : ∃ r2, y' = 1 + r2 := ⟨y' - 1, by omega⟩
        with_unfolding_all refine iter_rangeUnr (n := _) (by rfl) rg (small_one (by omega) (by omega) (by omega) (by omega)) (rangeSize_nn0 (by omega)) fr nw ?_
        intro I lt
        have o1 : @Ne Nat fA I := Nat.ne_of_lt (lt _ (.head _))
        have o2 : @Ne Nat r' I := Nat.ne_of_lt (lt _ (.tail _ (.head _)))
        have o3 : ∀ p ∈ news, p.1 ≠ I := fun p hp => Nat.ne_of_lt (lt _ (.tail _ (.tail _ hp)))
        refine range_loop [Str.ofString "index", Str.ofString "word"] _ (fun i nw => ∃ (fv : List Value) (fn : Nat), nw = (fA, listOf fv.toArray fn) :: (r', ({ cls := .type "tuple", data := .seq #[.int x' tx', .int (1 + r2) ty', .bool true] } : Obj)) :: news ∧ IntsAre fv ((List.range i).map fun j : Nat => wordAt ks x' (j : Int))) ?turn ?fin _ 0 _ _ (Nat.zero_add _) (fun _ _ => rfl) ⟨[], 0, rfl, .nil⟩
        case fin =>
          clear fr nw rg lt
          rintro nw u' h tk ⟨fv, fn, rfl, hfi⟩ F' N'
          dsimp only
          k_steps
          rename News h₀ L _ (_ :: _ :: _) => kN
          rename (_ < _ ∧ _ < _ ∧ AllLt _ news) => l3
          exact hret _ _ (pushF_w hc (by assumption)) _ _ _ _ fv _ _ (by assumption) (news_d3 kN) hfi l3.1 l3.2.2 lF.2
        case turn =>
          clear fr nw rg lt
          rintro i nw u' t h tk hi ⟨fv, fn, rfl, hfi⟩ F' N'
          have hfl := hfi.length
          rw [List.length_map, List.length_range] at hfl
          k_steps
          exact unhold (r3_end (by assumption) (by assumption) (by simp only [Int.zero_add]; rfl) hfi o1 o2 o3 (by intro z h3; simp only [List.contains_cons, List.contains_nil, Bool.or_false, Bool.or_eq_false_iff, beq_eq_false_iff_ne, ne_eq] at h3; simp [h3]))
    | false =>
      have hy := shape_cnt hb hc
      dsimp only
      k_steps
      · rename RaisedSN _ _ (envX cn cs L a ccd cl :: _) _ _ _ _ => R
        exact href (pushF_y hc (by omega)) _ _ _ _ (by assumption) (by assumption) (RaisedSN.sub R fun q hq => .tail _ hq)
      · rename News h₀ L _ (_ :: _ :: _) => kN
        rename IntsAre _ _ => hi
        rw [cut_is hx hy.1 (by assumption)] at hi
        rename (_ < _ ∧ _ < _ ∧ AllLt _ news) => l3
        refine hret _ _ (pushF_b hc (by assumption)) _ _ _ _ _ _ _ (by assumption) (news_d3 kN) hi l3.1 l3.2.2 ?_
        exact And.right (by assumption)
  · k_steps
    rename RaisedSN _ _ (envX cn cs L a ccd cl :: _) _ _ _ _ => R
    exact href (pushF_s hc) _ _ _ _ (by assumption) (by assumption) R
end
end Mine

-- B1
namespace Mine
open PySem PySem.W PySem.Spec PySem.Calls PyProof.Rows
set_option maxRecDepth 100000
set_option maxHeartbeats 0
/-- the road of behind_branch from a place on, at a depth: where it ends, or that it refuses -/
inductive BrTo (ks : List Int) (we : Bool) : Nat → Int → Int → Option Int → Prop
  | over {k : Nat} {d n : Int} : nextF ks n = none → BrTo ks we k d n none
  | eif {k : Nat} {n x : Int} : nextF ks n = some x → ks.getD n.toNat 0 = 89 → BrTo ks we k 0 n (some x)
  | els {k : Nat} {n x : Int} : nextF ks n = some x → ks.getD n.toNat 0 = 27 → we = true → BrTo ks we k 0 n (some x)
  | up {k : Nat} {d n x : Int} {r : Option Int} : nextF ks n = some x → ks.getD n.toNat 0 = 88 → BrTo ks we k (d + 1) x r → BrTo ks we (k + 1) d n r
  | down {k : Nat} {d n x : Int} {r : Option Int} : nextF ks n = some x → ks.getD n.toNat 0 = 89 → d ≠ 0 → BrTo ks we k (d - 1) x r → BrTo ks we (k + 1) d n r
  | on {k : Nat} {d n x : Int} {r : Option Int} : nextF ks n = some x → ks.getD n.toNat 0 ≠ 88 → ks.getD n.toNat 0 ≠ 89 → (ks.getD n.toNat 0 ≠ 27 ∨ d ≠ 0 ∨ we = false) → BrTo ks we k d x r → BrTo ks we (k + 1) d n r
theorem shape_pos' {ks : List Int} {n x y : Int} {z : Bool} (hn : 0 ≤ n) (h : shapeF ks n = some (x, y, z)) : 0 ≤ x ∧ x ≤ n + 2 := shape_pos0 hn h
theorem shape_cnt' {ks : List Int} {b : Array UInt8} {n x y : Int} {z : Bool} (hb : KBw.bInts b = ks) (h : shapeF ks n = some (x, y, z)) : 0 ≤ y ∧ y < 256 := shape_cnt hb h
theorem next_in {ks : List Int} {b : Array UInt8} {n x : Int} (hb : KBw.bInts b = ks) (hl : ks.length ≤ 2000) (hn : 0 ≤ n) (h : nextF ks n = some x) : 0 ≤ x ∧ x ≤ 5000 ∧ n < ks.length := by
  unfold nextF at h
  split at h
  · rename_i h1
    split at h
    · cases hs : shapeF ks n with
      | none => rw [hs] at h; cases h
      | some v =>
        obtain ⟨x', y', z'⟩ := v
        rw [hs] at h
        have p1 := shape_pos' hn hs
        have p2 := shape_cnt' hb hs
        simp only [Option.map_some, Option.some.injEq] at h
        subst h
        split <;> omega
    · cases h; omega
  · cases h
section
variable {ks : List Int} {we : Bool} {k : Nat} {d n x : Int} {r : Option Int}
theorem BrTo.none_of (H : BrTo ks we k d n r) (h : nextF ks n = none) : r = none := by
  cases H with
  | over => rfl
  | eif h1 => rw [h] at h1; cases h1
  | els h1 => rw [h] at h1; cases h1
  | up h1 => rw [h] at h1; cases h1
  | down h1 => rw [h] at h1; cases h1
  | on h1 => rw [h] at h1; cases h1
theorem BrTo.end_of (H : BrTo ks we k d n r) (h : nextF ks n = some x) (h2 : ks.getD n.toNat 0 = 89) (h3 : d = 0) : r = some x := by
  cases H with
  | over h1 => rw [h] at h1; cases h1
  | eif h1 => rw [h] at h1; cases h1; rfl
  | els h1 => rw [h] at h1; cases h1; rfl
  | up h1 h4 => rw [h2] at h4; cases h4
  | down h1 h4 h5 => exact absurd h3 h5
  | on h1 h4 h5 => exact absurd h2 h5
theorem BrTo.els_of (H : BrTo ks we k d n r) (h : nextF ks n = some x) (h2 : ks.getD n.toNat 0 = 27) (h3 : d = 0) (hw : we = true) : r = some x := by
  cases H with
  | over h1 => rw [h] at h1; cases h1
  | eif h1 => rw [h] at h1; cases h1; rfl
  | els h1 => rw [h] at h1; cases h1; rfl
  | up h1 h4 => rw [h2] at h4; cases h4
  | down h1 h4 h5 => rw [h2] at h4; cases h4
  | on h1 h4 h5 h6 =>
    rcases h6 with h6 | h6 | h6
    · exact absurd h2 h6
    · exact absurd h3 h6
    · rw [hw] at h6; cases h6
theorem BrTo.up_of (H : BrTo ks we k d n r) (h : nextF ks n = some x) (h2 : ks.getD n.toNat 0 = 88) : ∃ k', k' < k ∧ BrTo ks we k' (d + 1) x r := by
  cases H with
  | over h1 => rw [h] at h1; cases h1
  | eif h1 h4 => rw [h2] at h4; cases h4
  | els h1 h4 => rw [h2] at h4; cases h4
  | up h1 h4 H => rw [h] at h1; cases h1; exact ⟨_, Nat.lt_succ_self _, H⟩
  | down h1 h4 h5 => rw [h2] at h4; cases h4
  | on h1 h4 => exact absurd h2 h4
theorem BrTo.down_of (H : BrTo ks we k d n r) (h : nextF ks n = some x) (h2 : ks.getD n.toNat 0 = 89) (h3 : d ≠ 0) : ∃ k', k' < k ∧ BrTo ks we k' (d - 1) x r := by
  cases H with
  | over h1 => rw [h] at h1; cases h1
  | eif h1 h4 => exact absurd rfl h3
  | els h1 h4 => exact absurd rfl h3
  | up h1 h4 H => rw [h2] at h4; cases h4
  | down h1 h4 h5 H => rw [h] at h1; cases h1; exact ⟨_, Nat.lt_succ_self _, H⟩
  | on h1 h4 h5 => exact absurd h2 h5
theorem BrTo.on_of (H : BrTo ks we k d n r) (h : nextF ks n = some x) (h2 : ks.getD n.toNat 0 ≠ 88) (h3 : ks.getD n.toNat 0 ≠ 89) (h4 : ks.getD n.toNat 0 ≠ 27 ∨ d ≠ 0 ∨ we = false) : ∃ k', k' < k ∧ BrTo ks we k' d x r := by
  cases H with
  | over h1 => rw [h] at h1; cases h1
  | eif h1 h5 => exact absurd h5 h3
  | els h1 h5 h6 =>
    rcases h4 with h4 | h4 | h4
    · exact absurd h5 h4
    · exact absurd rfl h4
    · rw [h4] at h6; cases h6
  | up h1 h5 H => exact absurd h5 h2
  | down h1 h5 H => exact absurd h5 h3
  | on h1 h4 h5 h6 H => rw [h] at h1; cases h1; exact ⟨_, Nat.lt_succ_self _, H⟩
end
section
variable {prog : Program} {w : World} {p : Program} {loose : List Str} {mean : ExcName → Option Value} {mg mb : Str → Option Value}
    {dp un : Nat} {gd : Option (List Code)} {cn : Str} {cs : Scope} {a : Addr} {ccd : Value} {cl : List (Str × Addr)} {outer : List Env} {A₀ : Around} {base h₀ : Heap} {L : Addr} {m : Str → Option Value} {news : List (Addr × Obj)} {s : Shared}
    {Q E : Value → Shared → Prop} 
variable (B : Below A₀ base outer h₀) (F : Fr h₀ L s.heap m) (X : (Mine.hd.heap_39 w.params).In h₀) (T : Top p loose mean mg mb h₀) (hk : cs.kind = .function)
include B F X T hk
theorem c_behind_branch {b : Array UInt8} {tb : Tok} {n : Int} {t : Tok} {ks : List Int} {we : Bool} {r : Option Int} {k₀ : Nat}
    (N : News h₀ L s.heap news) (hd : dp + 25 < recursionLimit) (hu : un + 200 < cLine)
    (hb : KBw.bInts b = ks) (hl : ks.length ≤ 2000) (hn1 : 0 ≤ n) (hn2 : n ≤ 5000) (H : BrTo ks we k₀ 0 n r)
    (hret : ∀ x, r = some x → ∀ h' tk' tx, Fr h₀ L h' m → News h₀ L h' news → Q (.int x tx) { s with heap := h', toks := tk' })
    (href : r = none → Refuses base (envX cn cs L a ccd cl) outer h₀ L m news E s) :
    wpAny (model prog w) (ktrTop dp un gd cn cs L a ccd cl outer) (call (.ref 88) [.bytes b tb, .int n t, .bool we]) Q E s := by
  w_top off
  k_with_none
  k_with "execs cons" => (k_here; dsimp only)
  k_with "execs cons" => (k_here; with_reducible refine q_tok (fun tk => ?_))
  k_with "execs cons" => (k_here; (with_reducible show wpAny _ _ _ _ _ _); k_fold)
  k_with "exec Raise some none" => (k_here; k_dflt (refine' raise_K ?X ?hh ?_; (case X => k_asm); (case hh => rfl)))
  k_with "call ref" => ((k_here; (with_reducible show wpAny _ _ (call (Value.ref 44) _) _ _ _); k_dflt (refine' c_hint ?B ?F ?X ?T ?hk ?N ?hd ?hu ?_; (case B => k_asm); (case F => k_asm); (case X => k_asm); (case T => k_asm); (case hk => first | rfl | assumption); (case N => k_asm); (case hd => ktr_room); (case hu => ktr_units)); intro _ _ _ _ _ zqF' zqN' _; refine ⟨_, _, _, rfl, Frag.In.keeps (by k_asm) (Fr.keep zqF'), (zqN' _ (.head _)).1, ?_⟩); (all_goals (try dsimp only)))
  k_with "leaving ref" => (k_here; first | (k_dflt (refine' leave_onG rfl ?K ?F ?R ?U ?_; (case R => assumption); (case K => assumption); (case F => assumption); (case U => assumption)); intro _ _ _) | (k_dflt (refine' leave_first ?K ?F ?N ?ne ?_; (case K => assumption); (case F => k_asm); (case N => k_asm); (case ne => k_asm)); intro _ _ _))
  k_with "call ref" => ((k_here; (with_reducible show wpAny _ _ (call (Value.ref 60) _) _ _ _); k_dflt (refine' c_is_push ?B ?F ?X ?T ?hk ?N ?hd ?hu (fun _ _ _ _ => ?_); (case B => k_asm); (case F => k_asm); (case X => k_asm); (case T => k_asm); (case hk => first | rfl | assumption); (case N => k_asm); (case hd => ktr_room); (case hu => ktr_units)); (try k_sweep)); (all_goals (try dsimp only)))
  k_with "call ref" => ((k_here; (with_reducible show wpAny _ _ (call (Value.ref 53) _) _ _ _); k_dflt (refine' c_octet_at ?B ?F ?X ?T ?hk ?N ?hd ?hu ?hb ?hl ?h1 ?h2 (fun _ _ _ _ _ _ => ?_) (fun _ _ _ _ _ _ _ _ => ?_); (case B => k_asm); (case F => k_asm); (case X => k_asm); (case T => k_asm); (case hk => first | rfl | assumption); (case N => k_asm); (case hd => ktr_room); (case hu => ktr_units); (case hb => k_asm); (case hl => k_asm); (case h1 => omega); (case h2 => omega))); (all_goals (try dsimp only)))
  k_with "call ref" => ((k_here; (with_reducible show wpAny _ _ (call (Value.ref 81) _) _ _ _); k_dflt (refine' c_behind ?B ?F ?X ?T ?hk ?N ?hd ?hu ?hb ?hl ?h1 ?h2 (fun _ _ _ _ _ _ _ => ?_) (fun _ _ _ _ _ _ _ _ => ?_); (case B => k_asm); (case F => k_asm); (case X => k_asm); (case T => k_asm); (case hk => first | rfl | assumption); (case N => k_asm); (case hd => ktr_room); (case hu => ktr_units); (case hb => k_asm); (case hl => k_asm); (case h1 => omega); (case h2 => omega))); (all_goals (try dsimp only)))
  k_with "exec While Constant" => (k_here; refine hold ?_)
  k_with "KswEnd" => (refine hold ?_)
  refine wpAny_call ?_
  k_dflt ktr_enter
  rename Fr _ _ _ (fun y => List.lookup y _) => FE9
  with_unfolding_all (replace FE9 := fr_p3 FE9 rfl)
  try (show wpAny _ _ _ _ _ _; k_fold)
  k_steps
  refine unhold ?_
  rename Fr _ _ _ (fun y => if y = _ then _ else _) => F'
  rename News _ _ _ news => N'
  with_unfolding_all refine' ksw_while (σ := Nat × Int × Tok × Int × Tok) (fun _ => news) (fun c => [("depth", .int c.2.1 c.2.2.1), ("at", .int c.2.2.2.1 c.2.2.2.2)]) (fun _ => True) ["op", "following"] (fun c => 0 ≤ c.2.2.2.1 ∧ c.2.2.2.1 ≤ 5000 ∧ BrTo ks we c.1 c.2.1 c.2.2.2.1 r) (fun c => c.1) (k₀, 0, _, n, t) F' N' trivial ?kk ⟨hn1, hn2, H⟩ ?_
  case kk => kst_all
  clear F' N'
  rintro ⟨k, d, td, n, t⟩ u h1 tk1 _ ⟨hn1, hn2, H⟩ F' N'
  dsimp only at F' N' H hn1 hn2
  try (show wpAny _ _ _ _ _ _; k_fold)
  k_steps
  · rename nextF _ _ = some _ => hx
    have hi := next_in hb hl hn1 hx
    obtain ⟨k', hk', H'⟩ := H.up_of hx (by assumption)
    exact unhold (ksw_end (k', _, _, _, _) (by assumption) (by assumption) (fun p hp => hp) trivial (by kst_all) (by intro z h2 h3; simp only [List.forall_mem_cons, List.not_mem_nil, false_implies, implies_true, and_true, ne_eq] at h2; simp only [List.contains_cons, List.contains_nil, Bool.or_false, Bool.or_eq_false_iff, beq_eq_false_iff_ne, ne_eq] at h3; simp [kstB, h2, h3]) ⟨hi.1, hi.2.1, H'⟩ hk')
  · exact hret _ (H.end_of (by assumption) (by assumption) (by assumption)) _ _ _ (by assumption) (by assumption)
  · rename nextF _ _ = some _ => hx
    have hi := next_in hb hl hn1 hx
    obtain ⟨k', hk', H'⟩ := H.down_of hx (by assumption) (by assumption)
    exact unhold (ksw_end (k', _, _, _, _) (by assumption) (by assumption) (fun p hp => hp) trivial (by kst_all) (by intro z h2 h3; simp only [List.forall_mem_cons, List.not_mem_nil, false_implies, implies_true, and_true, ne_eq] at h2; simp only [List.contains_cons, List.contains_nil, Bool.or_false, Bool.or_eq_false_iff, beq_eq_false_iff_ne, ne_eq] at h3; simp [kstB, h2, h3]) ⟨hi.1, hi.2.1, H'⟩ hk')
  · exact hret _ (H.els_of (by assumption) (by assumption) (by assumption) (by assumption)) _ _ _ (by assumption) (by assumption)
  · rename nextF _ _ = some _ => hx
    have hi := next_in hb hl hn1 hx
    obtain ⟨k', hk', H'⟩ := H.on_of hx (by assumption) (by assumption) (.inr (.inr (by assumption)))
    exact unhold (ksw_end (k', _, _, _, _) (by assumption) (by assumption) (fun p hp => hp) trivial (by kst_all) (by intro z h2 h3; simp only [List.forall_mem_cons, List.not_mem_nil, false_implies, implies_true, and_true, ne_eq] at h2; simp only [List.contains_cons, List.contains_nil, Bool.or_false, Bool.or_eq_false_iff, beq_eq_false_iff_ne, ne_eq] at h3; simp [kstB, h2, h3]) ⟨hi.1, hi.2.1, H'⟩ hk')
  · rename nextF _ _ = some _ => hx
    have hi := next_in hb hl hn1 hx
    obtain ⟨k', hk', H'⟩ := H.on_of hx (by assumption) (by assumption) (.inr (.inl (by assumption)))
    exact unhold (ksw_end (k', _, _, _, _) (by assumption) (by assumption) (fun p hp => hp) trivial (by kst_all) (by intro z h2 h3; simp only [List.forall_mem_cons, List.not_mem_nil, false_implies, implies_true, and_true, ne_eq] at h2; simp only [List.contains_cons, List.contains_nil, Bool.or_false, Bool.or_eq_false_iff, beq_eq_false_iff_ne, ne_eq] at h3; simp [kstB, h2, h3]) ⟨hi.1, hi.2.1, H'⟩ hk')
  · rename nextF _ _ = some _ => hx
    have hi := next_in hb hl hn1 hx
    obtain ⟨k', hk', H'⟩ := H.on_of hx (by assumption) (by assumption) (.inl (by assumption))
    exact unhold (ksw_end (k', _, _, _, _) (by assumption) (by assumption) (fun p hp => hp) trivial (by kst_all) (by intro z h2 h3; simp only [List.forall_mem_cons, List.not_mem_nil, false_implies, implies_true, and_true, ne_eq] at h2; simp only [List.contains_cons, List.contains_nil, Bool.or_false, Bool.or_eq_false_iff, beq_eq_false_iff_ne, ne_eq] at h3; simp [kstB, h2, h3]) ⟨hi.1, hi.2.1, H'⟩ hk')
  · rename RaisedSN _ _ (envX cn cs L a ccd cl :: _) _ _ _ _ => R
    exact href (H.none_of (by assumption)) _ _ _ _ (by assumption) (by assumption) R
  · rename RaisedSN _ _ (envX cn cs L a ccd cl :: _) _ _ _ _ => R
    exact href (H.none_of (next_o (by assumption))) _ _ _ _ (by assumption) (by assumption) R
end
end Mine

-- B2
namespace Mine
open PySem PySem.W PySem.Spec PySem.Calls PyProof.Rows
set_option maxRecDepth 100000
set_option maxHeartbeats 0
/-- the road of behind_function -/
inductive FnTo (ks : List Int) : Nat → Int → Option Int → Prop
  | over {k : Nat} {n : Int} : ¬ n < ks.length → FnTo ks k n none
  | fin {k : Nat} {n : Int} : n < ks.length → ks.getD n.toNat 0 = 45 → FnTo ks k n (some n)
  | bad {k : Nat} {n : Int} : n < ks.length → ([44, 137].any fun x => x == ks.getD n.toNat 0) = true → FnTo ks k n none
  | on {k : Nat} {n x : Int} {r : Option Int} : nextF ks n = some x → ks.getD n.toNat 0 ≠ 45 → ([44, 137].any fun x => x == ks.getD n.toNat 0) = false → FnTo ks k x r → FnTo ks (k + 1) n r
theorem next_lt {ks : List Int} {n x : Int} (h : nextF ks n = some x) : n < ks.length := by
  unfold nextF at h
  split at h
  · assumption
  · cases h
theorem any_no45 {v : Int} (h : ([44, 137].any fun x => x == v) = true) : v ≠ 45 := by
  rintro rfl; revert h; decide
section
variable {ks : List Int} {k : Nat} {n x : Int} {r : Option Int}
theorem FnTo.none_of (H : FnTo ks k n r) (h : ¬ n < ks.length) : r = none := by
  cases H with
  | over => rfl
  | fin h1 => exact absurd h1 h
  | bad => rfl
  | on h1 => exact absurd (next_lt h1) h
theorem FnTo.end_of (H : FnTo ks k n r) (h : n < ks.length) (h2 : ks.getD n.toNat 0 = 45) : r = some n := by
  cases H with
  | over h1 => exact absurd h h1
  | fin => rfl
  | bad h1 h3 => exact absurd h2 (any_no45 h3)
  | on h1 h3 => exact absurd h2 h3
theorem FnTo.bad_of (H : FnTo ks k n r) (h : n < ks.length) (h2 : ([44, 137].any fun x => x == ks.getD n.toNat 0) = true) : r = none := by
  cases H with
  | over h1 => rfl
  | fin h1 h3 => exact absurd h3 (any_no45 h2)
  | bad h1 h3 => rfl
  | on h1 h3 h4 => rw [h2] at h4; cases h4
theorem FnTo.on_of (H : FnTo ks k n r) (h : n < ks.length) (h2 : ks.getD n.toNat 0 ≠ 45) (h3 : ([44, 137].any fun x => x == ks.getD n.toNat 0) = false) : ∃ k' y, nextF ks n = some y ∧ k' < k ∧ FnTo ks k' y r := by
  cases H with
  | over h1 => exact absurd h h1
  | fin h1 h4 => exact absurd h4 h2
  | bad h1 h4 => rw [h3] at h4; cases h4
  | on h1 h4 h5 H => exact ⟨_, _, h1, Nat.lt_succ_self _, H⟩
end
section
variable {prog : Program} {w : World} {p : Program} {loose : List Str} {mean : ExcName → Option Value} {mg mb : Str → Option Value}
    {dp un : Nat} {gd : Option (List Code)} {cn : Str} {cs : Scope} {a : Addr} {ccd : Value} {cl : List (Str × Addr)} {outer : List Env} {A₀ : Around} {base h₀ : Heap} {L : Addr} {m : Str → Option Value} {news : List (Addr × Obj)} {s : Shared}
    {Q E : Value → Shared → Prop} 
variable (B : Below A₀ base outer h₀) (F : Fr h₀ L s.heap m) (X : (Mine.hd.heap_39 w.params).In h₀) (T : Top p loose mean mg mb h₀) (hk : cs.kind = .function)
include B F X T hk

theorem c_behind_function {b : Array UInt8} {tb : Tok} {n : Int} {t : Tok} {ks : List Int} {r : Option Int} {k₀ : Nat}
    (N : News h₀ L s.heap news) (hd : dp + 25 < recursionLimit) (hu : un + 200 < cLine)
    (hb : KBw.bInts b = ks) (hl : ks.length ≤ 2000) (hn1 : 0 ≤ n) (hn2 : n ≤ 5000) (H : FnTo ks k₀ n r)
    (hret : ∀ x, r = some x → ∀ h' tk' tx, Fr h₀ L h' m → News h₀ L h' news → Q (.int x tx) { s with heap := h', toks := tk' })
    (href : r = none → Refuses base (envX cn cs L a ccd cl) outer h₀ L m news E s) :
    wpAny (model prog w) (ktrTop dp un gd cn cs L a ccd cl outer) (call (.ref 95) [.bytes b tb, .int n t]) Q E s := by
  w_top off
  k_with_none
  k_with "execs cons" => (k_here; dsimp only)
  k_with "execs cons" => (k_here; with_reducible refine q_tok (fun tk => ?_))
  k_with "execs cons" => (k_here; (with_reducible show wpAny _ _ _ _ _ _); k_fold)
  k_with "exec Raise some none" => (k_here; k_dflt (refine' raise_K ?X ?hh ?_; (case X => k_asm); (case hh => rfl)))
  k_with "call ref" => ((k_here; (with_reducible show wpAny _ _ (call (Value.ref 44) _) _ _ _); k_dflt (refine' c_hint ?B ?F ?X ?T ?hk ?N ?hd ?hu ?_; (case B => k_asm); (case F => k_asm); (case X => k_asm); (case T => k_asm); (case hk => first | rfl | assumption); (case N => k_asm); (case hd => ktr_room); (case hu => ktr_units)); intro _ _ _ _ _ zqF' zqN' _; refine ⟨_, _, _, rfl, Frag.In.keeps (by k_asm) (Fr.keep zqF'), (zqN' _ (.head _)).1, ?_⟩); (all_goals (try dsimp only)))
  k_with "leaving ref" => (k_here; first | (k_dflt (refine' leave_onG rfl ?K ?F ?R ?U ?_; (case R => assumption); (case K => assumption); (case F => assumption); (case U => assumption)); intro _ _ _) | (k_dflt (refine' leave_first ?K ?F ?N ?ne ?_; (case K => assumption); (case F => k_asm); (case N => k_asm); (case ne => k_asm)); intro _ _ _))
  k_with "call ref" => ((k_here; (with_reducible show wpAny _ _ (call (Value.ref 60) _) _ _ _); k_dflt (refine' c_is_push ?B ?F ?X ?T ?hk ?N ?hd ?hu (fun _ _ _ _ => ?_); (case B => k_asm); (case F => k_asm); (case X => k_asm); (case T => k_asm); (case hk => first | rfl | assumption); (case N => k_asm); (case hd => ktr_room); (case hu => ktr_units)); (try k_sweep)); (all_goals (try dsimp only)))
  k_with "call ref" => ((k_here; (with_reducible show wpAny _ _ (call (Value.ref 53) _) _ _ _); k_dflt (refine' c_octet_at ?B ?F ?X ?T ?hk ?N ?hd ?hu ?hb ?hl ?h1 ?h2 (fun _ _ _ _ _ _ => ?_) (fun _ _ _ _ _ _ _ _ => ?_); (case B => k_asm); (case F => k_asm); (case X => k_asm); (case T => k_asm); (case hk => first | rfl | assumption); (case N => k_asm); (case hd => ktr_room); (case hu => ktr_units); (case hb => k_asm); (case hl => k_asm); (case h1 => omega); (case h2 => omega))); (all_goals (try dsimp only)))
  k_with "call ref" => ((k_here; (with_reducible show wpAny _ _ (call (Value.ref 81) _) _ _ _); k_dflt (refine' c_behind ?B ?F ?X ?T ?hk ?N ?hd ?hu ?hb ?hl ?h1 ?h2 (fun _ _ _ _ _ _ _ => ?_) (fun _ _ _ _ _ _ _ _ => ?_); (case B => k_asm); (case F => k_asm); (case X => k_asm); (case T => k_asm); (case hk => first | rfl | assumption); (case N => k_asm); (case hd => ktr_room); (case hu => ktr_units); (case hb => k_asm); (case hl => k_asm); (case h1 => omega); (case h2 => omega))); (all_goals (try dsimp only)))
  k_with "exec While Constant" => (k_here; refine hold ?_)
  k_with "KswEnd" => (refine hold ?_)
  refine wpAny_call ?_
  k_dflt ktr_enter
  k_steps
  refine unhold ?_
  rename Fr _ _ _ (fun y => List.lookup y _) => F'
  rename News _ _ _ news => N'
  with_unfolding_all refine' ksw_while (σ := Nat × Int × Tok) (fun _ => news) (fun c => [("at", .int c.2.1 c.2.2)]) (fun _ => True) ["op"] (fun c => 0 ≤ c.2.1 ∧ c.2.1 ≤ 5000 ∧ FnTo ks c.1 c.2.1 r) (fun c => c.1) (k₀, n, t) F' N' trivial ?kk ⟨hn1, hn2, H⟩ ?_
  case kk => kst_all
  clear F' N'
  rintro ⟨k, n, t⟩ u h1 tk1 _ ⟨hn1, hn2, H⟩ F' N'
  dsimp only at F' N' H hn1 hn2
  k_steps
  · exact hret _ (H.end_of (by assumption) (by assumption)) _ _ _ (by assumption) (by assumption)
  · rename RaisedSN _ _ (envX cn cs L a ccd cl :: _) _ _ _ _ => R
    exact href (H.bad_of (by assumption) (by assumption)) _ _ _ _ (by assumption) (by assumption) (RaisedSN.sub R fun q hq => by first | exact hq | exact .tail _ hq)
  · rename nextF _ _ = some _ => hx
    have hi := next_in hb hl hn1 hx
    obtain ⟨k', y, hy, hk', H'⟩ := H.on_of (by assumption) (by assumption) (by assumption)
    rw [hx] at hy; cases hy
    exact unhold (ksw_end (k', _, _) (by assumption) (by assumption) (fun p hp => by first | exact hp | exact .tail _ hp) trivial (by kst_all) (by intro z h2 h3; simp only [List.forall_mem_cons, List.not_mem_nil, false_implies, implies_true, and_true, ne_eq] at h2; simp only [List.contains_cons, List.contains_nil, Bool.or_false, Bool.or_eq_false_iff, beq_eq_false_iff_ne, ne_eq] at h3; simp [kstB, h2, h3]) ⟨hi.1, hi.2.1, H'⟩ hk')
  · rename RaisedSN _ _ (envX cn cs L a ccd cl :: _) _ _ _ _ => R
    obtain ⟨k', y, hy, hk', H'⟩ := H.on_of (by assumption) (by assumption) (by assumption)
    rename nextF _ _ = none => hx
    rw [hx] at hy; cases hy
  · rename RaisedSN _ _ (envX cn cs L a ccd cl :: _) _ _ _ _ => R
    exact href (H.none_of (by assumption)) _ _ _ _ (by assumption) (by assumption) R
end
end Mine

-- B3
namespace Mine
open PySem PySem.W PySem.Spec PySem.Calls PyProof.Rows
set_option maxRecDepth 100000
set_option maxHeartbeats 0

noncomputable def brF (ks : List Int) (we : Bool) : Nat → Int → Int → Option (Option Int)
  | 0, _, _ => none
  | k + 1, d, n => match nextF ks n with
    | none => some none
    | some x => if ks.getD n.toNat 0 = 88 then brF ks we k (d + 1) x
      else if ks.getD n.toNat 0 = 89 then (if d = 0 then some (some x) else brF ks we k (d - 1) x)
      else if ks.getD n.toNat 0 = 27 ∧ d = 0 ∧ we = true then some (some x) else brF ks we k d x
theorem brF_to {ks : List Int} {we : Bool} {r : Option Int} : ∀ {k : Nat} {d n : Int}, brF ks we k d n = some r → BrTo ks we k d n r
  | 0, _, _, h => nomatch h
  | k + 1, d, n, h => by
    unfold brF at h
    split at h
    · cases h; exact .over (by assumption)
    · rename_i x hx
      split at h
      · exact .up hx (by assumption) (brF_to h)
      · split at h
        · split at h
          · subst_vars; cases h; exact .eif hx (by assumption)
          · exact .down hx (by assumption) (by assumption) (brF_to h)
        · split at h
          · rename_i q; cases h; obtain ⟨q1, rfl, q3⟩ := q; exact .els hx q1 q3
          · rename_i h1 h2 q
            refine .on hx h1 h2 ?_ (brF_to h)
            by_cases a : ks.getD n.toNat 0 = 27
            · by_cases b : d = 0
              · exact .inr (.inr (by simpa using fun c => q ⟨a, b, c⟩))
              · exact .inr (.inl b)
            · exact .inl a
end Mine

-- T1
namespace Mine
open PySem PySem.W PySem.Spec PySem.Calls PyProof.Rows
set_option maxRecDepth 100000
set_option maxHeartbeats 0

theorem news_app_comm {h₀ h : Heap} {L : Addr} {a b c : List (Addr × Obj)} {x : Addr × Obj} (N : News h₀ L h (a ++ x :: b)) : News h₀ L h (x :: (a ++ b)) := fun p hp => N p (by
  simp only [List.mem_cons, List.mem_append] at hp ⊢; grind)
theorem news_app_back {h₀ h : Heap} {L : Addr} {a b : List (Addr × Obj)} {x : Addr × Obj} (N : News h₀ L h (x :: (a ++ b))) : News h₀ L h (a ++ x :: b) := fun p hp => N p (by
  simp only [List.mem_cons, List.mem_append] at hp ⊢; grind)
theorem getD_mem {ts : List Int} {r : Int} (h0 : 0 ≤ r) (h1 : r < (ts.length : Int)) : ts.getD r.toNat 0 ∈ ts := by
  have : r.toNat < ts.length := by omega
  rw [List.getD_eq_getElem?_getD, List.getElem?_eq_getElem this]
  exact List.getElem_mem this
/-- the source of the draws -/
def Src (o : Obj) : Prop := ∃ x y vs n, o = listOf vs.toArray n ∧ IntsAre vs [x, y] ∧ 0 ≤ x ∧ 0 ≤ y ∧ y < 2147483647
section
variable {prog : Program} {w : World} {p : Program} {loose : List Str} {mean : ExcName → Option Value} {mg mb : Str → Option Value}
    {dp un : Nat} {gd : Option (List Code)} {cn : Str} {cs : Scope} {a : Addr} {ccd : Value} {cl : List (Str × Addr)} {outer : List Env} {A₀ : Around} {base h₀ : Heap} {L : Addr} {m : Str → Option Value} {news : List (Addr × Obj)} {s : Shared}
    {Q E : Value → Shared → Prop} 
variable (B : Below A₀ base outer h₀) (F : Fr h₀ L s.heap m) (X : (Mine.hd.heap_39 w.params).In h₀) (T : Top p loose mean mg mb h₀) (hk : cs.kind = .function)
include B F X T hk

theorem c_take {src : Addr} {o : Obj} {l : List (Addr × Obj)} {g : Obj → List (Addr × Obj)} {top : Int} {t : Tok}
    (N : News h₀ L s.heap l) (U : UpdF src o l g) (hs : Src o) (hd : dp + 10 < recursionLimit) (hu : un + 80 < cLine)
    (ht : 2 ≤ top) (ht2 : top ≤ 100)
    (hret : ∀ h' tk' r tr o', Src o' → 0 ≤ r → r < top → Fr h₀ L h' m → News h₀ L h' (g o') → Q (.int r tr) { s with heap := h', toks := tk' }) :
    wpAny (model prog w) (ktrTop dp un gd cn cs L a ccd cl outer) (call (.ref 109) [.ref src, .int top t]) Q E s := by
  obtain ⟨pre, post, rfl, hg, o1, o2⟩ := U.split
  obtain ⟨x, y, vs, n, rfl, hvs, hx, hy, hy2⟩ := hs
  refine c_law_take B F X T hk (news_app_comm (c := []) N) hd hu hvs hx hy hy2 ht ht2 (fun p hp => (List.mem_append.mp hp).elim (o1 p) (o2 p)) fun h' tk' r tr x' y' vs' n' i' hx' hy' hy2' hr hr' F' N' => ?_
  exact hret h' tk' r tr _ ⟨x', y', vs', n', rfl, i', hx', hy', hy2'⟩ hr hr' F' (hg _ ▸ news_app_back N')
omit B F X T hk
include B F X T hk
theorem c_one₀ {src th : Addr} {o : Obj} {tv : List Value} {tn : Nat} {ts : List Int} {rest : List (Addr × Obj)}
    (N : News h₀ L s.heap ((src, o) :: (th, listOf tv.toArray tn) :: rest)) (hs : Src o) (hd : dp + 14 < recursionLimit) (hu : un + 120 < cLine)
    (hne : th ≠ src) (htv : IntsAre tv ts) (h2 : 2 ≤ ts.length) (h100 : ts.length ≤ 100) (hrest : ∀ p ∈ rest, p.1 ≠ src)
    (hret : ∀ h' tk' v tr o', Src o' → v ∈ ts → Fr h₀ L h' m → News h₀ L h' ((src, o') :: (th, listOf tv.toArray tn) :: rest) → Q (.int v tr) { s with heap := h', toks := tk' }) :
    wpAny (model prog w) (ktrTop dp un gd cn cs L a ccd cl outer) (call (.ref 116) [.ref src, .ref th]) Q E s := by
  w_top off
  k_with_none
  k_with "call ref" => ((k_here; (with_reducible show wpAny _ _ (call (Value.ref 109) _) _ _ _); k_dflt (refine' c_take ?B ?F ?X ?T ?hk ?N ?U ?hs ?hd ?hu ?h1 ?h2 (fun _ _ _ _ _ _ _ _ _ _ => ?_); (case B => k_asm); (case F => k_asm); (case X => k_asm); (case T => k_asm); (case hk => first | rfl | assumption); (case N => k_asm); (case U => first | assumption | k_updF); (case hs => assumption); (case hd => ktr_room); (case hu => ktr_units); (case h1 => first | omega | (simp only [List.length_cons, List.length_nil] at *; omega)); (case h2 => first | omega | (simp only [List.length_cons, List.length_nil] at *; omega))); (try k_sweep)); (all_goals (try dsimp only)))
  have hne' := hne.symm
  refine wpAny_call ?_
  k_dflt ktr_enter
  k_steps
  refine hret _ _ _ _ _ (by assumption) ?_ (by assumption) (by assumption)
  exact getD_mem (by assumption) (by assumption)
theorem c_one {src th : Addr} {o : Obj} {tv : List Value} {tn : Nat} {ts : List Int} {l : List (Addr × Obj)} {g : Obj → List (Addr × Obj)}
    (N : News h₀ L s.heap l) (U : UpdF src o l g) (hs : Src o) (hm : (th, listOf tv.toArray tn) ∈ l) (hd : dp + 14 < recursionLimit) (hu : un + 120 < cLine)
    (hne : th ≠ src) (htv : IntsAre tv ts) (h2 : 2 ≤ ts.length) (h100 : ts.length ≤ 100)
    (hret : ∀ h' tk' v tr o', Src o' → v ∈ ts → Fr h₀ L h' m → News h₀ L h' (g o') → Q (.int v tr) { s with heap := h', toks := tk' }) :
    wpAny (model prog w) (ktrTop dp un gd cn cs L a ccd cl outer) (call (.ref 116) [.ref src, .ref th]) Q E s := by
  obtain ⟨pre, post, rfl, hg, o1, o2⟩ := U.split
  have N₁ : News h₀ L s.heap ((src, o) :: (th, listOf tv.toArray tn) :: (pre ++ post)) := fun p hp => N p (by
    simp only [List.mem_cons, List.mem_append] at hp hm ⊢; grind)
  refine c_one₀ B F X T hk N₁ hs hd hu hne htv h2 h100 (fun p hp => (List.mem_append.mp hp).elim (o1 p) (o2 p)) fun h' tk' v tr o' hs' hv F' N' => ?_
  have N₂ : News h₀ L h' (g o') := by
    rw [hg]
    exact fun p hp => N' p (by simp only [List.mem_cons, List.mem_append] at hp ⊢; grind)
  exact hret h' tk' v tr o' hs' hv F' N₂
end
end Mine

-- T2
namespace Mine
open PySem PySem.W PySem.Spec PySem.Calls PyProof.Rows
set_option maxRecDepth 100000
set_option maxHeartbeats 0

theorem ne_off1 {d : Addr} : ∀ {l : List (Addr × Obj)}, LCg.Off1 d l → ∀ p ∈ l, p.1 ≠ d
  | [], _, _, hp => nomatch hp
  | _ :: _, h, p, hp => (List.mem_cons.mp hp).elim (fun e => e ▸ h.1) (fun e => ne_off1 h.2 p e)
local macro_rules | `(tactic| k_all) => `(tactic| first | ((iterate 2 (all_goals first | k_flat | refine ne_lt ?_)); done) | exact ne_off1 (by k_flat) | exact ne_lt (allLt_of (by assumption)))

theorem ne_le {d d' : Addr} {l : List (Addr × Obj)} (h : AllLt d l) (hd : d ≤ d') : ∀ p ∈ l, p.1 ≠ d' := fun p hp => Nat.ne_of_lt (Nat.lt_of_lt_of_le (kst_ltOf h p hp) hd)
theorem comp_inv {prog : Program} {w : World} {A : Around} {h₀ : Heap} {L : Addr} {m : Str → Option Value} {env : Env} {elt : Expr} {x : Str} {scope : Scope} {cl : List (Str × Addr)} {s : Shared} {S : List (Addr × Obj) → Prop} {P : Nat → Value → Prop}
    {Fin : List Value → List (Addr × Obj) → Prop} (J : Nat → List Value → List (Addr × Obj) → Prop)
    (turn : ∀ i ys nw, J i ys nw → ∀ v I oI C oC D m₂ h tk (E' : Value → Shared → Prop), P i v → LCg.NsObj oC m₂ → m₂ x = some v → Fr h₀ L h m → News h₀ L h ((I, oI) :: (C, oC) :: (D, LCg.lst ys) :: nw) → LCg.Off3 I C D nw → ((@Ne Nat I C) ∧ (@Ne Nat I D) ∧ (@Ne Nat C D)) →
      wpAny (model prog w) A (eval elt (compEnvC scope cl C env)) (LCg.CompEnd h₀ L m { s with heap := h, toks := tk } I oI C oC D (LCg.lst ys) S (fun y news' => J (i + 1) (ys ++ [y]) news')) E' { s with heap := h, toks := tk }) :
    ∀ (k i : Nat) (ys : List Value) (nw : List (Addr × Obj)), J i ys nw → (∀ ys nw, J (i + k) ys nw → Fin ys nw) → LCg.CompRest prog w A h₀ L m env elt x scope cl s S P Fin k i ys nw := by
  intro k
  induction k with
  | zero => exact fun i ys nw j fin => fin ys nw j
  | succ k ih =>
    intro i ys nw j fin
    refine LCg.CompRest.succ fun v I oI C oC D m₂ h tk E' hP hC hx F N off ne => ?_
    refine wpAny_mono (turn i ys nw j v I oI C oC D m₂ h tk E' hP hC hx F N off ne) (fun y s₂ q => ?_) fun _ _ e => e
    obtain ⟨h', tk', news', e, F', N', off', S', r⟩ := q
    exact ⟨h', tk', news', e, F', N', off', S', ih (i + 1) _ _ r fun ys nw j' => fin ys nw (by rw [show i + (k + 1) = i + 1 + k by omega]; exact j')⟩

theorem rangeSize_nn {r : Int} (h : 0 ≤ r) : Builtin.Range.rangeSize 0 (1 + r) 1 = (((1 + r).toNat : Nat) : Int) := by
  rw [rangeSize_nat]; congr 2; omega
noncomputable abbrev oddL : List Int := [88, 89, 27, 45, 44, 0, 255]
noncomputable def inter : List (Int × Int) → List Int
  | [] => []
  | q :: r => q.1 :: q.2 :: inter r
noncomputable def wordOf (q : Int × Int) : Int := q.1 * 256 + q.2 - 65536 * if decide (127 < q.1) = true then 1 else 0
/-- a push as the law writes it: its octets and what it tells -/
inductive PushSeg : List Int → List Int → Prop
  | b {some : List Int} : 1 ≤ some.length → some.length ≤ 3 → (∀ v ∈ some, v ∈ oddL) → PushSeg (64 :: (some.length : Int) :: some) some
  | sb {some : List Int} : 1 ≤ some.length → some.length ≤ 3 → (∀ v ∈ some, v ∈ oddL) → PushSeg ((175 + (some.length : Int)) :: some) some
  | w {ps : List (Int × Int)} : 1 ≤ ps.length → ps.length ≤ 3 → (∀ q ∈ ps, q.1 ∈ oddL ∧ q.2 ∈ oddL) → PushSeg (65 :: (ps.length : Int) :: inter ps) (ps.map wordOf)
  | sw {ps : List (Int × Int)} : 1 ≤ ps.length → ps.length ≤ 3 → (∀ q ∈ ps, q.1 ∈ oddL ∧ q.2 ∈ oddL) → PushSeg ((183 + (ps.length : Int)) :: inter ps) (ps.map wordOf)
theorem r_len {r : Int} {n : Nat} (h0 : 0 ≤ r) (h3 : r < 3) (hl : n = (1 + r).toNat) : r + 1 = (n : Int) ∧ 1 ≤ n ∧ n ≤ 3 := by omega
theorem r_len1 {r : Int} {n : Nat} (h : r + 1 = (n : Int)) : 1 + r = (n : Int) := by rw [Int.add_comm]; exact h
theorem r_len2 {r c : Int} {n : Nat} (h : r + 1 = (n : Int)) : c + 1 + (1 + r) - 1 = c + (n : Int) := by omega
theorem psb {r : Int} {ns : List Int} (h0 : 0 ≤ r) (h3 : r < 3) (hl : ns.length = (1 + r).toNat) (hm : ∀ v ∈ ns, v ∈ oddL) : PushSeg ([64, 1 + r] ++ ns) ns := by
  have e := r_len h0 h3 hl
  rw [r_len1 e.1]; exact PushSeg.b e.2.1 e.2.2 hm
theorem pssb {r : Int} {ns : List Int} (h0 : 0 ≤ r) (h3 : r < 3) (hl : ns.length = (1 + r).toNat) (hm : ∀ v ∈ ns, v ∈ oddL) : PushSeg ([176 + (1 + r) - 1] ++ ns) ns := by
  have e := r_len h0 h3 hl
  rw [show (176 : Int) + (1 + r) - 1 = 175 + (ns.length : Int) from r_len2 (c := 175) e.1]; exact PushSeg.sb e.2.1 e.2.2 hm
theorem psw {r : Int} {ps : List (Int × Int)} (h0 : 0 ≤ r) (h3 : r < 3) (hl : ps.length = (1 + r).toNat) (hm : ∀ q ∈ ps, q.1 ∈ oddL ∧ q.2 ∈ oddL) : PushSeg ([65, 1 + r] ++ inter ps) (ps.map wordOf) := by
  have e := r_len h0 h3 hl
  rw [r_len1 e.1]; exact PushSeg.w e.2.1 e.2.2 hm
theorem pssw {r : Int} {ps : List (Int × Int)} (h0 : 0 ≤ r) (h3 : r < 3) (hl : ps.length = (1 + r).toNat) (hm : ∀ q ∈ ps, q.1 ∈ oddL ∧ q.2 ∈ oddL) : PushSeg ([184 + (1 + r) - 1] ++ inter ps) (ps.map wordOf) := by
  have e := r_len h0 h3 hl
  rw [show (184 : Int) + (1 + r) - 1 = 183 + (ps.length : Int) from r_len2 (c := 183) e.1]; exact PushSeg.sw e.2.1 e.2.2 hm
theorem inter_len2 : ∀ ps : List (Int × Int), (inter ps).length = 2 * ps.length
  | [] => rfl
  | q :: r => by simp only [inter, List.length_cons, inter_len2 r]; omega
theorem inter_snoc (a b : Int) : ∀ ps : List (Int × Int), inter (ps ++ [(a, b)]) = inter ps ++ [a, b]
  | [] => rfl
  | q :: r => by simp only [List.cons_append, inter, inter_snoc a b r]
section
variable {prog : Program} {w : World} {A : Around} {E : Value → Shared → Prop} {s : Shared} {env : Env} {target : Expr} {body : List Stmt} {Q : Flow → Shared → Prop}
/-- a for over a list, told by its states and the turn's number -/
theorem list_statesN {ax : Addr} {items : Array Value} (hh : A.handled = none) (hl : s.heap.IsList ax items) (Inv : Addr → Nat → Shared → Prop)
    (h0 : Inv s.heap.objs.size 0 { s with heap := s.heap.push { cls := .type "list_iterator", data := .fields #[.ref ax, .int 0 0] } })
    (keepI : ∀ I i s₁ h' tk, Inv I i s₁ → (∀ b o, b ≠ I → s₁.heap.get? b = some o → h'.get? b = some o) → Inv I i { s₁ with heap := h', toks := tk })
    (lst : ∀ I i s₁, Inv I i s₁ → s₁.heap.IsList ax items)
    (step : ∀ I i v s₁ it, items[i]? = some v → Inv I i s₁ → s₁.heap.get? I = some it → wpAny (model prog w) A (assign target env v) (fun _ s₂ => wpAny (model prog w) A (execs body env)
      (fun f s₃ => match f with
        | .ret v => Q (.ret v) s₃
        | .brk => Q .next s₃
        | _ => Inv I (i + 1) s₃ ∧ s₃.heap.get? I = some it) E s₂) E s₁)
    (fin : ∀ I s₁, Inv I items.size s₁ → Q .next s₁)
    (hE : PassesOwn (model prog w) A env E := by passes_own) :
    wpAny (model prog w) A (pyIter (.ref ax)) (fun it s₂ => codeAny (model prog w) A (.forLoop target it body [] env) (fun r s' => match r with | .ok f => Q f s' | .error e => cameBackBy (model prog w) A env E e s') s₂) E s := by
  refine wpAny_pyIter_list hl ?_
  have hne : ax ≠ s.heap.objs.size := by obtain ⟨o, ho, _⟩ := hl; exact Nat.ne_of_lt (Heap.lt_size ho)
  generalize hI : s.heap.objs.size = I at h0 hne
  have W := Walks.list (prog := prog) (w := w) (A := A) hh I ax hne items
  refine codeAny_forLoop_any (fun k s' => ∃ i, i ≤ items.size ∧ k = items.size + 1 - i ∧ s'.heap.IsListIter I ax i ∧ Inv I i s') ?_ (items.size + 1)
    ⟨0, Nat.zero_le _, rfl, ⟨_, hI ▸ Heap.get?_push_size _ rfl, rfl, rfl⟩, h0⟩
  rintro k s' ⟨i, hi, rfl, hit, hInv⟩
  have pass : ∀ {α : Type} {t : Sem α} {Q' : α → Shared → Prop} {s₁ : Shared}, wpAny (model prog w) A t Q' E s₁ →
      wpAny (model prog w) A t Q' (notedBy (model prog w) A env fun e s' => cameBackBy (model prog w) A env E e s') s₁ := fun x => wpAny_mono x (fun _ _ y => y) hE
  by_cases hlt : i < items.size
  · refine W.item i _ _ _ hlt ⟨hit, lst I i s' hInv⟩ fun v h₁ tk₁ hv st₁ hk₁ => ?_
    have Inv₁ := keepI I i s' h₁ tk₁ hInv fun b o hb e => hk₁ b o (by simpa using hb) e
    obtain ⟨o, hio, hic⟩ := id st₁.1
    refine letGo_listiter st₁.1 ?_
    refine pass (wpAny_mono (step I i v _ o hv Inv₁ hio) (fun _ s₂ x => pass (wpAny_mono x (fun f s₃ y => ?_) fun _ _ z => z)) fun _ _ z => z)
    cases f with
    | ret v => exact y
    | brk => exact y
    | next => exact ⟨items.size + 1 - (i + 1), Nat.sub_lt_sub_left (Nat.lt_succ_of_lt hlt) (Nat.lt_succ_self i), i + 1, hlt, rfl, ⟨o, y.2, hic⟩, y.1⟩
    | cont => exact ⟨items.size + 1 - (i + 1), Nat.sub_lt_sub_left (Nat.lt_succ_of_lt hlt) (Nat.lt_succ_self i), i + 1, hlt, rfl, ⟨o, y.2, hic⟩, y.1⟩
  · have e : i = items.size := by omega
    subst e
    refine W.done _ _ _ ⟨hit, lst I _ s' hInv⟩ fun h₁ tk₁ hk₁ => ?_
    exact wpAny_execs_nil (fin I _ (keepI I _ s' h₁ tk₁ hInv fun b o hb e => hk₁ b o (by simpa using hb) e))
end
theorem news_pick {h₀ h : Heap} {L : Addr} {all rest : List (Addr × Obj)} {x y z u : Addr × Obj} (N : News h₀ L h all) (h1 : x ∈ all) (h2 : y ∈ all) (h3 : z ∈ all) (h4 : u ∈ all) (h5 : ∀ p ∈ rest, p ∈ all) : News h₀ L h (x :: y :: z :: u :: rest) := fun p hp => by
  simp only [List.mem_cons] at hp
  rcases hp with rfl | rfl | rfl | rfl | hp
  · exact N _ h1
  · exact N _ h2
  · exact N _ h3
  · exact N _ h4
  · exact N _ (h5 p hp)
theorem ints_snoc {ys : List Value} {ns : List Int} {v : Int} {t : Tok} (h : IntsAre ys ns) : IntsAre (ys ++ [.int v t]) (ns ++ [v]) := by
  induction h with
  | nil => exact .cons _ _ .nil
  | cons _ _ _ ih => exact .cons _ _ ih
theorem comp_one {prog : Program} {w : World} {A : Around} {h₀ : Heap} {L : Addr} {m : Str → Option Value} {env : Env} {elt : Expr} {x : Str} {scope : Scope} {cl : List (Str × Addr)} {s : Shared} {P : Nat → Value → Prop}
    {Fin : List Value → List (Addr × Obj) → Prop} {e1 e2 e3 : Addr × Obj} {src : Addr} {o : Obj} {rest : List (Addr × Obj)} {n : Nat} (hs : Src o)
    (turn : ∀ ys ns o, Src o → IntsAre ys ns → ∀ v I oI C oC D m₂ h tk (E' : Value → Shared → Prop), LCg.NsObj oC m₂ → Fr h₀ L h m → News h₀ L h ((I, oI) :: (C, oC) :: (D, LCg.lst ys) :: e1 :: e2 :: e3 :: (src, o) :: rest) → m₂ x = some v → LCg.Off3 I C D (e1 :: e2 :: e3 :: (src, o) :: rest) → ((@Ne Nat I C) ∧ (@Ne Nat I D) ∧ (@Ne Nat C D)) →
      wpAny (model prog w) A (eval elt (compEnvC scope cl C env)) (LCg.CompEnd h₀ L m { s with heap := h, toks := tk } I oI C oC D (LCg.lst ys) (fun _ => True) (fun y news' => ∃ o' v' t', Src o' ∧ news' = e1 :: e2 :: e3 :: (src, o') :: rest ∧ v' ∈ oddL ∧ y = Value.int v' t')) E' { s with heap := h, toks := tk })
    (fin : ∀ ys ns o, Src o → IntsAre ys ns → ns.length = n → (∀ v ∈ ns, v ∈ oddL) → Fin ys (e1 :: e2 :: e3 :: (src, o) :: rest)) :
    LCg.CompRest prog w A h₀ L m env elt x scope cl s (fun _ => True) P Fin n 0 [] (e1 :: e2 :: e3 :: (src, o) :: rest) := by
  refine comp_inv (fun i ys nw => ∃ o, Src o ∧ nw = e1 :: e2 :: e3 :: (src, o) :: rest ∧ ∃ ns, IntsAre ys ns ∧ ns.length = i ∧ ∀ v ∈ ns, v ∈ oddL) ?_ n 0 [] _ ⟨o, hs, rfl, [], .nil, rfl, fun v hv => by cases hv⟩ ?_
  · rintro i ys nw ⟨o, hs, rfl, ns, hi, hl, hm⟩ v I oI C oC D m₂ h tk E' hP hC hx F' N' off ne
    refine wpAny_mono (turn ys ns o hs hi v I oI C oC D m₂ h tk E' hC F' N' hx off ne) (fun y s₂ q => ?_) fun _ _ e => e
    obtain ⟨h', tk', news', e, F', N', off', S', o', v', t', hs', rfl, hv', rfl⟩ := q
    exact ⟨h', tk', _, e, F', N', off', S', o', hs', rfl, ns ++ [v'], ints_snoc hi, by simp [hl], fun u hu => by
      rcases List.mem_append.mp hu with hu | hu
      · exact hm u hu
      · rw [List.mem_singleton.mp hu]; exact hv'⟩
  · rintro ys nw ⟨o, hs, rfl, ns, hi, hl, hm⟩
    exact fin ys ns o hs hi (by omega) hm

theorem ints_get {ys : List Value} {ns : List Int} (h : IntsAre ys ns) : ∀ {i : Nat} {v : Value}, ys[i]? = some v → ∃ n t, v = .int n t ∧ ns[i]? = some n := by
  induction h with
  | nil => intro i v e; simp at e
  | cons n t _ ih =>
    intro i v e
    cases i with
    | zero => simp at e; exact ⟨n, t, e.symm, rfl⟩
    | succ i => simpa using ih (by simpa using e)
theorem permO {h₀ h : Heap} {L : Addr} {T W O D e1 e2 e3 so : Addr × Obj} {z : List (Addr × Obj)} (N : News h₀ L h (T :: W :: O :: D :: e1 :: e2 :: e3 :: so :: z)) : News h₀ L h (O :: W :: so :: D :: e1 :: e2 :: e3 :: z) := by
  repeat refine List.forall_mem_cons.mpr ⟨N _ (by k_mem), ?_⟩
  exact fun q hq => N q (by repeat (first | exact hq | refine List.Mem.tail _ ?_))
theorem ns_le3 {r : Int} {n : Nat} (h0 : 0 ≤ r) (h3 : r < 3) (hl : n = (1 + r).toNat) : n ≤ 3 := by omega
theorem inter_le6 {ps : List (Int × Int)} (h : ps.length ≤ 3) : (inter ps).length ≤ 6 := by rw [inter_len2]; omega
theorem take_le {ps : List (Int × Int)} {ns : List Int} {i : Nat} (e : ps.map Prod.fst = ns.take i) (h : ns.length ≤ 3) : ps.length ≤ 3 := by
  have e := congrArg List.length e
  rw [List.length_map, List.length_take] at e
  exact e ▸ Nat.le_trans (Nat.min_le_right _ _) h
theorem odd_oct {n : Int} (h : n ∈ oddL) : 0 ≤ n ∧ n ≤ 255 := (by decide : ∀ n ∈ oddL, 0 ≤ n ∧ n ≤ 255) n h
/-- between the turns of the loop that writes words -/
inductive WoInv (h₀ : Heap) (L : Addr) (m₁ : Str → Option Value) (st : Shared) (wA src DA : Addr) (dO : Obj) (ns : List Int) (e1 e2 e3 : Addr × Obj) (rest : List (Addr × Obj)) (I : Addr) (i : Nat) (s₁ : Shared) : Prop
  | mk (h : Heap) (tk : Nat) (u : Str → Option Value) (oa : Addr) (ov : List Value) (on : Nat) (wv : List Value) (wn : Nat) (o : Obj) (ps : List (Int × Int)) : s₁ = { st with heap := h, toks := tk } →
      Fr h₀ L h (fun y => if y = Str.ofString "octets" then some (.ref oa) else if y = Str.ofString "words" then some (.ref wA) else if [Str.ofString "high", Str.ofString "low"].contains y then u y else m₁ y) →
      News h₀ L h ((oa, listOf ov.toArray on) :: (wA, listOf wv.toArray wn) :: (src, o) :: (DA, dO) :: e1 :: e2 :: e3 :: rest) → Src o → IntsAre ov (inter ps) → IntsAre wv (ps.map wordOf) → ps.map Prod.fst = ns.take i → (∀ q ∈ ps, q.1 ∈ oddL ∧ q.2 ∈ oddL) →
      @Ne Nat oa wA → @Ne Nat oa src → (∀ q ∈ (oa, listOf ov.toArray on) :: (wA, listOf wv.toArray wn) :: (src, o) :: (DA, dO) :: e1 :: e2 :: e3 :: rest, q.1 ≠ I) → I ≠ L → h₀.get? I = none → WoInv h₀ L m₁ st wA src DA dO ns e1 e2 e3 rest I i s₁
theorem take_more {ns : List Int} {i : Nat} {n : Int} (h : ns[i]? = some n) : ns.take (i + 1) = ns.take i ++ [n] := by
  rw [List.take_add_one, h]; rfl
theorem wo_end {h₀ h : Heap} {L : Addr} {m₁ mm : Str → Option Value} {st : Shared} {wA src DA D I oa : Addr} {dO it o' : Obj} {ns : List Int} {e1 e2 e3 x2 x4 : Addr × Obj} {rest : List (Addr × Obj)} {i wn tk : Nat} {n low : Int} {tt : Tok} {wsv wv : List Value} {ps : List (Int × Int)} {oO oW oS : Obj}
    (F : Fr h₀ L h mm) (m1 : mm (Str.ofString "octets") = some (.ref D)) (m2 : mm (Str.ofString "words") = some (.ref wA)) (m3 : ∀ y, y ≠ Str.ofString "octets" → y ≠ Str.ofString "words" → [Str.ofString "high", Str.ofString "low"].contains y = false → mm y = m₁ y)
    (N : News h₀ L h ((D, listOf wsv.toArray 0) :: x2 :: (I, it) :: x4 :: (wA, listOf (wv.toArray.push (.int (wordOf (n, low)) tt)) (wn + 1)) :: (src, o') :: (DA, dO) :: e1 :: e2 :: e3 :: rest))
    (hs : Src o') (hI : IntsAre wsv (inter ps ++ [n, low])) (q3 : IntsAre wv (ps.map wordOf)) (q4 : ps.map Prod.fst = ns.take i) (q5 : ∀ q ∈ ps, q.1 ∈ oddL ∧ q.2 ∈ oddL) (hn : ns[i]? = some n) (hno : n ∈ oddL) (hlo : low ∈ oddL)
    (n1 : @Ne Nat D wA) (n2 : @Ne Nat D src) (n3 : @Ne Nat D I) (o₁ : ∀ q ∈ (oa, oO) :: (wA, oW) :: (src, oS) :: (DA, dO) :: e1 :: e2 :: e3 :: rest, q.1 ≠ I) :
    WoInv h₀ L m₁ st wA src DA dO ns e1 e2 e3 rest I (i + 1) { st with heap := h, toks := tk } ∧ h.get? I = some it := by
  have NI := N _ (.tail _ (.tail _ (.head _)))
  refine ⟨.mk h tk mm D wsv 0 (wv ++ [.int (wordOf (n, low)) tt]) (wn + 1) o' (ps ++ [(n, low)]) rfl ?_ ?_ hs (by rw [inter_snoc]; exact hI) (by rw [List.map_append]; exact ints_snoc q3) (by rw [List.map_append, q4, take_more hn]; rfl) ?_ n1 n2 ?_ NI.2.1 NI.2.2, NI.1⟩
  · have e : mm = fun y => if y = Str.ofString "octets" then some (.ref D) else if y = Str.ofString "words" then some (.ref wA) else if [Str.ofString "high", Str.ofString "low"].contains y then mm y else m₁ y := by
      funext y
      by_cases h1 : y = Str.ofString "octets"
      · subst h1; rw [m1, if_pos rfl]
      · by_cases h2 : y = Str.ofString "words"
        · subst h2; rw [m2, if_neg h1, if_pos rfl]
        · rw [if_neg h1, if_neg h2]
          cases h3 : [Str.ofString "high", Str.ofString "low"].contains y with
          | true => simp
          | false => simp [m3 y h1 h2 h3]
    exact e ▸ F
  · simp only [List.push_toArray] at N
    refine List.forall_mem_cons.mpr ⟨N _ (.head _), fun q hq => N q ?_⟩
    iterate 4 refine List.Mem.tail _ ?_
    exact hq
  · intro q hq
    rcases List.mem_append.mp hq with hq | hq
    · exact q5 q hq
    · rw [List.mem_singleton.mp hq]; exact ⟨hno, hlo⟩
  · intro q hq
    simp only [List.mem_cons] at hq
    rcases hq with rfl | rfl | rfl | hq
    · exact n3
    · exact o₁ (wA, oW) (.tail _ (.head _))
    · exact o₁ (src, oS) (.tail _ (.tail _ (.head _)))
    · exact o₁ q (.tail _ (.tail _ (.tail _ (List.mem_cons.mpr (by simpa only [List.mem_cons] using hq)))))
abbrev WoOf {h₀ h : Heap} {L : Addr} {O W so D e1 e2 e3 : Addr × Obj} {rest : List (Addr × Obj)} (_N : News h₀ L h (O :: W :: so :: D :: e1 :: e2 :: e3 :: rest)) (m₁ : Str → Option Value) (st : Shared) (wA src DA : Addr) (dO : Obj) (ns : List Int) : Addr → Nat → Shared → Prop :=
  WoInv h₀ L m₁ st wA src DA dO ns e1 e2 e3 rest
theorem news_butW {h₀ h h' : Heap} {L I : Addr} {news : List (Addr × Obj)} (N : News h₀ L h news) (ho : ∀ q ∈ news, q.1 ≠ I) (k : ∀ b o, b ≠ I → h.get? b = some o → h'.get? b = some o) : News h₀ L h' news := fun q hq => ⟨k _ _ (ho q hq) (N q hq).1, (N q hq).2⟩

theorem newListI {M : Model} {A : Around} {h₀ : Heap} {L : Addr} {m : Str → Option Value} {news : List (Addr × Obj)} {s : Shared} {E : Value → Shared → Prop} {ns : List Int} {vs : List Value} {Q : Value → Shared → Prop} (hv : IntsAre vs ns) (F : Fr h₀ L s.heap m) (N : News h₀ L s.heap news)
    (h : ∀ vs' l h', IntsAre vs' ns → Fr h₀ L h' m → News h₀ L h' ((l, listOf vs'.toArray 0) :: news) → (∀ p ∈ news, p.1 < l) → Q (.ref l) { s with heap := h' }) (hsz : vs.length ≤ sizeLine) : wpAny M A (newList vs) Q E s :=
  newList_K F N (fun l h' => h vs l h' hv) hsz
section
variable {prog : Program} {w : World} {p : Program} {loose : List Str} {mean : ExcName → Option Value} {mg mb : Str → Option Value}
    {dp un : Nat} {gd : Option (List Code)} {cn : Str} {cs : Scope} {a : Addr} {ccd : Value} {cl : List (Str × Addr)} {outer : List Env} {A₀ : Around} {base h₀ : Heap} {L : Addr} {m : Str → Option Value} {news : List (Addr × Obj)} {s : Shared}
    {Q E : Value → Shared → Prop} 
variable (B : Below A₀ base outer h₀) (F : Fr h₀ L s.heap m) (X : (Mine.hd.heap_39 w.params).In h₀) (T : Top p loose mean mg mb h₀) (hk : cs.kind = .function)
include B F X T hk

theorem c_push₀ {src : Addr} {o : Obj} {rest : List (Addr × Obj)}
    (N : News h₀ L s.heap ((src, o) :: rest)) (hs : Src o) (hd : dp + 20 < recursionLimit) (hu : un + 160 < cLine)
    (hrest : ∀ p ∈ rest, p.1 ≠ src)
    (hret : ∀ h' tk' r lo lw ov on wv wn p ws o', Src o' → PushSeg p ws → IntsAre ov p → IntsAre wv ws → Fr h₀ L h' m →
      News h₀ L h' ((r, ({ cls := .type "tuple", data := .seq #[.ref lo, .ref lw] } : Obj)) :: (lo, listOf ov.toArray on) :: (lw, listOf wv.toArray wn) :: (src, o') :: rest) →
      (src ≠ r ∧ src ≠ lo ∧ src ≠ lw) → (∀ q ∈ rest, q.1 ≠ r) → (∀ q ∈ rest, q.1 ≠ lo) → (∀ q ∈ rest, q.1 ≠ lw) → Q (.ref r) { s with heap := h', toks := tk' }) :
    wpAny (model prog w) (ktrTop dp un gd cn cs L a ccd cl outer) (call (.ref 121) [.ref src]) Q E s := by
  w_top off
  k_with_none
  k_with "call ref" => ((k_here; (with_reducible show wpAny _ _ (call (Value.ref 109) _) _ _ _); k_dflt (refine' c_take ?B ?F ?X ?T ?hk ?N ?U ?hs ?hd ?hu ?h1 ?h2 (fun _ _ _ _ _ _ _ _ _ _ => ?_); (case B => k_asm); (case F => k_asm); (case X => k_asm); (case T => k_asm); (case hk => first | rfl | assumption); (case N => k_asm); (case U => first | assumption | k_updF); (case hs => assumption); (case hd => ktr_room); (case hu => ktr_units); (case h1 => first | omega | (simp only [List.length_cons, List.length_nil] at *; omega)); (case h2 => first | omega | (simp only [List.length_cons, List.length_nil] at *; omega))); (try k_sweep)); (all_goals (try dsimp only)))
  k_with "call ref" => ((k_here; (with_reducible show wpAny _ _ (call (Value.ref 116) _) _ _ _); k_dflt (refine' c_one ?B ?F ?X ?T ?hk ?N ?U ?hs ?hm ?hd ?hu ?hne ?htv ?h1 ?h2 (fun _ _ _ _ _ _ _ _ _ => ?_); (case B => k_asm); (case F => k_asm); (case X => k_asm); (case T => k_asm); (case hk => first | rfl | assumption); (case N => k_asm); (case U => first | assumption | k_updF); (case hs => assumption); (case hm => k_mem); (case hd => ktr_room); (case hu => ktr_units); (case hne => k_ne); (case htv => first | with_reducible assumption | l_ints); (case h1 => first | omega | decide | (simp only [List.length_cons, List.length_nil] at *; omega)); (case h2 => first | omega | decide | (simp only [List.length_cons, List.length_nil] at *; omega))); (try k_sweep)); (all_goals (try dsimp only)))
  k_with "newList" => (k_here; (with_reducible show wpAny _ _ (newList (_ :: _ :: _ :: _)) _ _ _); k_dflt (refine' newListI ?k0 ?k1 ?k2 ?_ ?z; (case k0 => l_ints); (case k1 => k_asm); (case k2 => k_asm); (case z => exact Nat.le_of_ble_eq_true rfl); k_whole); intro vs' l' h' hv' F' N' l1; (try k_lt l1); (try k_sweep))
  k_with "CompSrc" => (k_here; refine hold ?_)
  k_with "CompEnd" => (k_here; refine hold ?_)
  k_with "exec For Name Name cons nil" => (k_here; (with_unfolding_all refine' wpAny_For ?_ (by intro _; rfl)); k_whole)
  k_with "pyIter ref" => (k_here; refine hold ?_)
  k_with "execs cons" => (k_here; dsimp only)
  k_with "execs cons" => (k_here; with_reducible refine q_tok (fun tk => ?_))
  k_with "execs cons" => (k_here; (with_reducible show wpAny _ _ _ _ _ _); k_fold)
  refine wpAny_call ?_
  k_dflt (refine' code_defC ?k1 ?k2 ?k3 ?k4 ?k5 ?kA ?kF ?kK ?k6 ?k7 ?k8 ?k9 ?kB ?kD ?_ ?c2 ?c3 ?c4; (case kA => exact rfl); (case kF => exact rfl); (case kK => assumption); (case k1 => k_asm); (case k2 => k_asm); (case k3 => k_asm); (case k4 => k_asm); (case k5 => k_asm); (case k6 => k_is); (case k7 => k_is); (case k8 => ktr_room); (case k9 => exact BindsTo.of_eq rfl); (case kB => exact rfl); (case kD => decide +kernel); (case c2 => exact rfl); (case c3 => exact rfl); (case c4 => exact rfl); k_whole; intro g' L' h' tk' cells' FG' F' N' Y' B' X' T' l1; (try k_lt l1); k_cells Y'; (try simp only [List.cons_append, List.nil_append] at N'); (try dsimp only); (try k_fold))
  obtain ⟨lt1, lt2⟩ := l1
  have r1 := ne_le lt2 (Nat.le_succ L')
  have r2 := ne_le lt2 (Nat.le_trans (Nat.le_succ L') (Nat.le_succ _))
  try (show wpAny _ _ _ _ _ _; k_fold)
  k_steps
  refine unhold ?_
  rename Fr g' L' _ _ => fr
  rename News g' L' _ _ => nw
  rename IsRange _ _ _ _ _ _ _ _ => rg
  rename Src _ => sr
  rename (_ < _ ∧ _) => lts
  rename (_ < 3) => h3
  rename (0 ≤ _) => h0
  k_dflt (refine' LCg.CompSrc.range (by rfl) fr nw rg (small_one (by omega) (by omega) (by omega) (by omega)) (rangeSize_nn (by omega)) (by first | omega | (rw [sizeLine_eq]; omega)) (fun g => ?_))
  refine comp_one sr ?turn ?fin
  case turn =>
    clear fr nw rg sr
    intro ys ns o hs hi v I oI C oC D m₂ h tk E' hC F' N' hx off ne
    have off' := off
    simp only [LCg.Off3] at off'
    try (show wpAny _ _ _ _ _ _; k_fold)
    k_steps
    refine unhold ?_
    rename News g' L' _ _ => N9
    exact LCg.CompEnd.intro (by assumption) N9 _ (fun p hp => hp) off trivial ⟨_, _, _, by assumption, rfl, by assumption, rfl⟩
  case fin =>
    clear fr nw rg sr
    intro ys ns o hs hi hl hm
    have hn3 := ns_le3 h0 h3 hl
    try (show wpAny _ _ _ _ _ _; k_fold)
    k_steps
    · rename News h₀ L _ (_ :: _) => kN
      simp only [LCg.lst] at kN
      rename IntsAre _ (_ ++ ns) => hI
      exact hret _ _ _ _ _ _ _ _ _ _ _ _ (by assumption) (psb h0 h3 hl hm) hI hi (by assumption) (news_pick kN (by k_mem) (by k_mem) (by k_mem) (by k_mem) (by intro p hp; repeat (first | exact hp | refine List.Mem.tail _ ?_))) ⟨by k_ne, by k_ne, by k_ne⟩ (by k_all) (by k_all) (by k_all)
    · rename News h₀ L _ (_ :: _) => kN
      simp only [LCg.lst] at kN
      rename IntsAre _ (_ ++ ns) => hI
      exact hret _ _ _ _ _ _ _ _ _ _ _ _ (by assumption) (pssb h0 h3 hl hm) hI hi (by assumption) (news_pick kN (by k_mem) (by k_mem) (by k_mem) (by k_mem) (by intro p hp; repeat (first | exact hp | refine List.Mem.tail _ ?_))) ⟨by k_ne, by k_ne, by k_ne⟩ (by k_all) (by k_all) (by k_all)
    · refine unhold ?_
      rename_i DA _ _ oD aw _ aw1 _ oa0 _ lo wA _ lw TA _ _ _ _ hh F' N'
      replace N' := permO N'
      obtain ⟨m₁, hm₁, F₁⟩ : ∃ m₁ : Str → Option Value, m₁ = _ ∧ Fr g' L' hh (fun y => if y = Str.ofString "octets" then some (.ref oa0) else if y = Str.ofString "words" then some (.ref wA) else m₁ y) := ⟨_, rfl, F'⟩
      have fr' : Fr g' L' hh (fun y => if y = Str.ofString "octets" then some (.ref oa0) else if y = Str.ofString "words" then some (.ref wA) else if [Str.ofString "high", Str.ofString "low"].contains y then m₁ y else m₁ y) := by simpa only [ite_self] using F₁
      have hne1 : @Ne Nat oa0 wA := Nat.ne_of_lt lw.1
      have hne2 : @Ne Nat oa0 src := by k_ne
      have hne3 : @Ne Nat wA src := by k_ne
      refine list_statesN rfl ⟨_, (N' _ (.tail _ (.tail _ (.tail _ (.head _))))).1, rfl, _, rfl⟩ (WoOf N' m₁ s wA src DA (LCg.lst ys) ns) ?start ?keepI ?lst ?step ?fin ?pass
      case pass => passes_own
      case start =>
        exact .mk _ _ _ oa0 [] _ [] _ o [] rfl (fr'.push _) (fun q hq => ⟨Heap.get?_push_of_some _ (N' q hq).1, (N' q hq).2⟩) hs .nil .nil rfl (fun q hq => nomatch hq) hne1 hne2 (fun q hq => Nat.ne_of_lt (Heap.lt_size (N' q hq).1)) (Nat.ne_of_gt F₁.ns.lt) (next_is_new F₁)
      case keepI =>
        rintro I i s₁ h' tk' ⟨h, tk₀, u, oa, ov, on, wv, wn, o, ps, rfl, F₁, N₁, q1, q2, q3, q4, q5, q6, q7, o₁, i₁, i₂⟩ hk
        exact .mk _ _ u oa ov on wv wn o ps rfl (fr_turn F₁ i₂ i₁ hk) (news_butW N₁ o₁ hk) q1 q2 q3 q4 q5 q6 q7 o₁ i₁ i₂
      case lst =>
        rintro I i s₁ ⟨h, tk₀, u, oa, ov, on, wv, wn, o, ps, rfl, F₁, N₁, _⟩
        exact ⟨_, (N₁ _ (.tail _ (.tail _ (.tail _ (.head _))))).1, rfl, _, rfl⟩
      case fin =>
        subst hm₁
        unfold WoOf
        clear fr' N' F' F₁ hs
        rintro I s₁ ⟨h, tk₀, u, oa, ov, on, wv, wn, o, ps, rfl, F₁, N₁, hs, q2, q3, q4, q5, q6, q7, o₁, i₁, i₂⟩
        have hpl : ps.length = ns.length := by
          have e := congrArg List.length q4
          rw [List.length_map, List.length_take, List.size_toArray, hi.length, Nat.min_self] at e
          exact e
        have hl3 := hpl.trans hl
        have hol := q2.length
        have hi6 := inter_le6 (hpl ▸ ns_le3 h0 h3 hl : ps.length ≤ 3)
        try (show wpAny _ _ _ _ _ _; k_fold)
        k_steps
        · rename News h₀ L _ (_ :: _) => kN
          rename IntsAre _ (_ ++ inter ps) => hI
          exact hret _ _ _ _ _ _ _ _ _ _ _ _ (by assumption) (psw h0 h3 hl3 q5) hI q3 (by assumption) (news_pick kN (by k_mem) (by k_mem) (by k_mem) (by k_mem) (by intro p hp; repeat (first | exact hp | refine List.Mem.tail _ ?_))) ⟨by k_ne, by k_ne, by k_ne⟩ (by k_all) (by k_all) (by k_all)
        · rename News h₀ L _ (_ :: _) => kN
          rename IntsAre _ (_ ++ inter ps) => hI
          exact hret _ _ _ _ _ _ _ _ _ _ _ _ (by assumption) (pssw h0 h3 hl3 q5) hI q3 (by assumption) (news_pick kN (by k_mem) (by k_mem) (by k_mem) (by k_mem) (by intro p hp; repeat (first | exact hp | refine List.Mem.tail _ ?_))) ⟨by k_ne, by k_ne, by k_ne⟩ (by k_all) (by k_all) (by k_all)
      case step =>
        unfold WoOf
        clear fr' N' F' F₁ hm₁ hs
        rintro I i v s₁ it hv ⟨h, tk₀, u, oa, ov, on, wv, wn, o, ps, rfl, F₁, N₁, hs, q2, q3, q4, q5, q6, q7, o₁, i₁, i₂⟩ hit
        obtain ⟨n, tn, rfl, hn⟩ := ints_get hi (by simpa using hv)
        have hno : n ∈ oddL := hm n (List.mem_of_getElem? hn)
        have hnb : 0 ≤ n ∧ n ≤ 255 := odd_oct hno
        have N₂ : News g' L' h ((I, it) :: _) := List.forall_mem_cons.mpr ⟨⟨hit, i₁, i₂⟩, N₁⟩
        have hpl : ps.length ≤ 3 := take_le q4 (ns_le3 h0 h3 hl)
        have hwl : wv.length ≤ 3 := (q3.length.trans (List.length_map _)) ▸ hpl
        have hi6 := inter_le6 hpl
        have hol := q2.length
        have hil := inter_len2 ps
        have q8 : @Ne Nat wA I := o₁ _ (.tail _ (.head _))
        have q9 : @Ne Nat src I := o₁ _ (.tail _ (.tail _ (.head _)))
        clear N₁ hit
        try (show wpAny _ _ _ _ _ _; k_fold)
        k_steps
        · rename News g' L' _ (_ :: _) => kN
          rename Fr g' L' _ _ => kF
          rename IntsAre _ (_ ++ [_, _]) => hI
          exact (wo_end (mm := _) kF rfl rfl (by intro y a1 a2 a3; simp only [List.contains_cons, List.contains_nil, Bool.or_false, Bool.or_eq_false_iff, beq_eq_false_iff_ne, ne_eq] at a3; simp [a1, a2, a3]) kN (by assumption) hI q3 q4 q5 hn hno (by assumption) (by k_ne) (by k_ne) (by k_ne) o₁).1
        · rename News g' L' _ (_ :: _) => kN
          exact (kN _ (.tail _ (.tail _ (.head _)))).1
end
end Mine

-- T3
namespace Mine
open PySem PySem.W PySem.Spec PySem.Calls PyProof.Rows
set_option maxRecDepth 100000
set_option maxHeartbeats 0

section
variable {prog : Program} {w : World} {p : Program} {loose : List Str} {mean : ExcName → Option Value} {mg mb : Str → Option Value}
    {dp un : Nat} {gd : Option (List Code)} {cn : Str} {cs : Scope} {a : Addr} {ccd : Value} {cl : List (Str × Addr)} {outer : List Env} {A₀ : Around} {base h₀ : Heap} {L : Addr} {m : Str → Option Value} {news : List (Addr × Obj)} {s : Shared}
    {Q E : Value → Shared → Prop} 
variable (B : Below A₀ base outer h₀) (F : Fr h₀ L s.heap m) (X : (Mine.hd.heap_39 w.params).In h₀) (T : Top p loose mean mg mb h₀) (hk : cs.kind = .function)
include B F X T hk

theorem c_push {src : Addr} {o : Obj} {l : List (Addr × Obj)} {g : Obj → List (Addr × Obj)}
    (N : News h₀ L s.heap l) (U : UpdF src o l g) (hs : Src o) (hd : dp + 20 < recursionLimit) (hu : un + 160 < cLine)
    (hret : ∀ h' tk' r lo lw ov on wv wn p ws o', Src o' → PushSeg p ws → IntsAre ov p → IntsAre wv ws → Fr h₀ L h' m →
      News h₀ L h' ((r, ({ cls := .type "tuple", data := .seq #[.ref lo, .ref lw] } : Obj)) :: (lo, listOf ov.toArray on) :: (lw, listOf wv.toArray wn) :: g o') →
      (∀ q ∈ g o', q.1 ≠ r) → (∀ q ∈ g o', q.1 ≠ lo) → (∀ q ∈ g o', q.1 ≠ lw) → Q (.ref r) { s with heap := h', toks := tk' }) :
    wpAny (model prog w) (ktrTop dp un gd cn cs L a ccd cl outer) (call (.ref 121) [.ref src]) Q E s := by
  obtain ⟨pre, post, rfl, hg, o1, o2⟩ := U.split
  refine c_push₀ B F X T hk (news_app_comm (c := []) N) hs hd hu (fun p hp => (List.mem_append.mp hp).elim (o1 p) (o2 p)) fun h' tk' r lo lw ov on wv wn p ws o' hs' hp i1 i2 F' N' hn n1 n2 n3 => ?_
  have off : ∀ {d : Addr}, src ≠ d → (∀ q ∈ pre ++ post, q.1 ≠ d) → ∀ q ∈ g o', q.1 ≠ d := fun e k q hq => by
    rw [hg] at hq
    simp only [List.mem_append, List.mem_cons] at hq k
    rcases hq with hq | rfl | hq
    · exact k q (.inl hq)
    · exact e
    · exact k q (.inr hq)
  refine hret h' tk' r lo lw ov on wv wn p ws o' hs' hp i1 i2 F' (fun q hq => N' q ?_) (off hn.1 n1) (off hn.2.1 n2) (off hn.2.2 n3)
  rw [hg] at hq
  simp only [List.mem_cons, List.mem_append] at hq ⊢
  grind
end
/-- what the law has noted of its pushes, as the ledger bears it -/
inductive PushesIn (v : List (Addr × Obj)) : List Value → List (Int × List Int × Int) → Prop
  | nil : PushesIn v [] []
  | cons {tA lw : Addr} {b e : Int} {t t' : Tok} {wv : List Value} {wn : Nat} {ws : List Int} {vs : List Value} {ps : List (Int × List Int × Int)} :
      (tA, ({ cls := .type "tuple", data := .seq #[.int b t, .ref lw, .int e t'] } : Obj)) ∈ v → (lw, listOf wv.toArray wn) ∈ v → IntsAre wv ws → PushesIn v vs ps → PushesIn v (.ref tA :: vs) ((b, ws, e) :: ps)
/-- the middle of a branch: where its ELSE ends, or None -/
def MidIs (v : Value) : Option Int → Prop
  | none => v = .none
  | some x => ∃ t, v = .int x t
inductive BranchesIn (v : List (Addr × Obj)) : List Value → List (Int × Option Int × Int) → Prop
  | nil : BranchesIn v [] []
  | cons {tA : Addr} {b e : Int} {t t' : Tok} {mv : Value} {mid : Option Int} {vs : List Value} {bs : List (Int × Option Int × Int)} :
      (tA, ({ cls := .type "tuple", data := .seq #[.int b t, mv, .int e t'] } : Obj)) ∈ v → MidIs mv mid → BranchesIn v vs bs → BranchesIn v (.ref tA :: vs) ((b, mid, e) :: bs)
theorem PushesIn.mono {v v' : List (Addr × Obj)} {vs : List Value} {ps : List (Int × List Int × Int)} (H : PushesIn v vs ps) (h : ∀ p ∈ v, p ∈ v') : PushesIn v' vs ps := by
  induction H with
  | nil => exact .nil
  | cons h1 h2 h3 _ ih => exact .cons (h _ h1) (h _ h2) h3 ih
theorem BranchesIn.mono {v v' : List (Addr × Obj)} {vs : List Value} {bs : List (Int × Option Int × Int)} (H : BranchesIn v vs bs) (h : ∀ p ∈ v, p ∈ v') : BranchesIn v' vs bs := by
  induction H with
  | nil => exact .nil
  | cons h1 h2 _ ih => exact .cons (h _ h1) h2 ih
theorem PushesIn.snoc {v : List (Addr × Obj)} {vs : List Value} {ps : List (Int × List Int × Int)} {tA lw : Addr} {b e : Int} {t t' : Tok} {wv : List Value} {wn : Nat} {ws : List Int} (H : PushesIn v vs ps)
    (h1 : (tA, ({ cls := .type "tuple", data := .seq #[.int b t, .ref lw, .int e t'] } : Obj)) ∈ v) (h2 : (lw, listOf wv.toArray wn) ∈ v) (h3 : IntsAre wv ws) : PushesIn v (vs ++ [.ref tA]) (ps ++ [(b, ws, e)]) := by
  induction H with
  | nil => exact .cons h1 h2 h3 .nil
  | cons g1 g2 g3 _ ih => exact .cons g1 g2 g3 ih
theorem BranchesIn.snoc {v : List (Addr × Obj)} {vs : List Value} {bs : List (Int × Option Int × Int)} {tA : Addr} {b e : Int} {t t' : Tok} {mv : Value} {mid : Option Int} (H : BranchesIn v vs bs)
    (h1 : (tA, ({ cls := .type "tuple", data := .seq #[.int b t, mv, .int e t'] } : Obj)) ∈ v) (h2 : MidIs mv mid) : BranchesIn v (vs ++ [.ref tA]) (bs ++ [(b, mid, e)]) := by
  induction H with
  | nil => exact .cons h1 h2 .nil
  | cons g1 g2 _ ih => exact .cons g1 g2 ih
/-- a well formed run of instructions -/
inductive Seg : List Int → Prop
  | nil : Seg []
  | plain {c : Int} {s : List Int} : c ∈ [32, 69, 90] → Seg s → Seg (c :: s)
  | push {p ws s : List Int} : PushSeg p ws → Seg s → Seg (p ++ s)
  | if1 {a s : List Int} : Seg a → Seg s → Seg (88 :: (a ++ 89 :: s))
  | if2 {a b s : List Int} : Seg a → Seg b → Seg s → Seg (88 :: (a ++ 27 :: (b ++ 89 :: s)))
theorem Seg.app {a b : List Int} (ha : Seg a) (hb : Seg b) : Seg (a ++ b) := by
  induction ha with
  | nil => exact hb
  | plain h _ ih => exact .plain h ih
  | push h _ ih => rw [List.append_assoc]; exact .push h ih
  | if1 h1 _ _ ih => rw [List.cons_append, List.append_assoc, List.cons_append]; exact .if1 h1 ih
  | if2 h1 h2 _ _ _ ih => rw [List.cons_append, List.append_assoc, List.cons_append, List.append_assoc, List.cons_append]; exact .if2 h1 h2 ih
/-- a push stands there -/
def PushAt (ks : List Int) (x : Int × List Int × Int) : Prop := ∃ pre p post, ks = pre ++ (p ++ post) ∧ PushSeg p x.2.1 ∧ x.1 = pre.length ∧ x.2.2 = pre.length + p.length
def BranchAt (ks : List Int) (x : Int × Option Int × Int) : Prop :=
  (∃ pre a post, ks = pre ++ (a ++ 89 :: post) ∧ Seg a ∧ x = ((pre.length : Int), none, (pre.length : Int) + a.length + 1)) ∨
  (∃ pre a b post, ks = pre ++ (a ++ 27 :: (b ++ 89 :: post)) ∧ Seg a ∧ Seg b ∧ x = ((pre.length : Int), some ((pre.length : Int) + a.length + 1), (pre.length : Int) + a.length + 1 + b.length + 1))
theorem PushAt.app {ks t : List Int} {x : Int × List Int × Int} (h : PushAt ks x) : PushAt (ks ++ t) x := by
  obtain ⟨pre, p, post, rfl, h⟩ := h
  exact ⟨pre, p, post ++ t, by simp, h⟩
theorem BranchAt.app {ks t : List Int} {x : Int × Option Int × Int} (h : BranchAt ks x) : BranchAt (ks ++ t) x := by
  rcases h with ⟨pre, a, post, rfl, h⟩ | ⟨pre, a, b, post, rfl, h⟩
  · exact .inl ⟨pre, a, post ++ t, by simp, h⟩
  · exact .inr ⟨pre, a, b, post ++ t, by simp, h⟩
end Mine

-- T5
namespace Mine
open PySem PySem.W PySem.Spec PySem.Calls PyProof.Rows
set_option maxRecDepth 100000
set_option maxHeartbeats 0
theorem inter_len : ∀ ps : List (Int × Int), (inter ps).length = 2 * ps.length
  | [] => rfl
  | q :: r => by simp only [inter, List.length_cons, inter_len r]; omega
theorem PushSeg.len {p ws : List Int} (h : PushSeg p ws) : 2 ≤ p.length ∧ p.length ≤ 8 := by
  cases h <;> simp only [List.length_cons, inter_len] <;> omega
theorem PushesIn.len {v : List (Addr × Obj)} {vs : List Value} {ps : List (Int × List Int × Int)} (H : PushesIn v vs ps) : vs.length = ps.length := by
  induction H with
  | nil => rfl
  | cons _ _ _ _ ih => simp [ih]
theorem BranchesIn.len {v : List (Addr × Obj)} {vs : List Value} {bs : List (Int × Option Int × Int)} (H : BranchesIn v vs bs) : vs.length = bs.length := by
  induction H with
  | nil => rfl
  | cons _ _ _ ih => simp [ih]
theorem off1_of {d : Addr} : ∀ {l : List (Addr × Obj)}, (∀ q ∈ l, q.1 ≠ d) → LCg.Off1 d l
  | [], _ => trivial
  | _ :: _, h => ⟨h _ (.head _), off1_of fun q hq => h q (.tail _ hq)⟩

def NeH (a b : Nat) : Prop := a ≠ b
theorem neH {a b : Nat} (h : NeH a b) : a ≠ b := h
theorem neH' {a b : Nat} (h : NeH b a) : a ≠ b := Ne.symm h
theorem ne_offm {d x : Addr} {o : Obj} {l : List (Addr × Obj)} (h : LCg.Off1 d l) (hm : (x, o) ∈ l) : @Ne Nat x d := ne_off1 h _ hm
theorem ne_offm' {d x : Addr} {o : Obj} {l : List (Addr × Obj)} (h : LCg.Off1 d l) (hm : (x, o) ∈ l) : @Ne Nat d x := Ne.symm (ne_off1 h _ hm)

theorem ext_K {prog : Program} {w : World} {A : Around} {E : Value → Shared → Prop} {s : Shared} {h₀ : Heap} {L D b : Addr} {m : Str → Option Value} {news news' : List (Addr × Obj)} {xs ys : List Value} {n n2 : Nat} {Q : Value → Shared → Prop} (F : Fr h₀ L s.heap m) (N : News h₀ L s.heap news) (hb : (b, listOf ys.toArray n2) ∈ news) (hne : 1 ≤ ys.length)
    (U : Upd D (listOf xs.toArray n) (listOf (xs ++ ys).toArray (n + 1)) news news') (hz : xs.length + ys.length ≤ 16000000)
    (h : ∀ h', Fr h₀ L h' m → News h₀ L h' news' → Q .none { s with heap := h' }) : wpAny (model prog w) A (call (.builtin "list.extend") [.ref D, .ref b]) Q E s := by
  have e1 : xs.toArray.toList = xs := by simp
  have e2 : ys.toArray.toList = ys := by simp
  refine kl_extend (its := xs.toArray) (its2 := ys.toArray) (l := xs ++ ys) F N hb (by rw [e1, e2]) (by rw [e2]; omega) U ?_ (by rw [e1, sizeLine_eq]; omega) (by rw [sizeLine_eq]; simp only [List.size_toArray]; omega) h
  intro q
  simp only [Bool.and_eq_true, Builtin.List.listTooLong, decide_eq_true_eq, List.size_toArray] at q
  have := q.2
  rw [sizeLine_eq] at this
  omega
/-- all that the law holds in its hands -/
def Dat5 (v : List (Addr × Obj)) (sO cO pO bO : Obj) (ks : List Int) (ps : List (Int × List Int × Int)) (bs : List (Int × Option Int × Int)) : Prop :=
  Src sO ∧ (∃ cv cn, cO = listOf cv.toArray cn ∧ IntsAre cv ks) ∧ (∃ pv pn, pO = listOf pv.toArray pn ∧ PushesIn v pv ps) ∧ (∃ bv bn, bO = listOf bv.toArray bn ∧ BranchesIn v bv bs) ∧ ps.length ≤ ks.length ∧ bs.length ≤ ks.length
noncomputable abbrev five (src cA pA bA nA : Addr) (sO cO pO bO nO : Obj) (z : List (Addr × Obj)) : List (Addr × Obj) := (src, sO) :: (cA, cO) :: (pA, pO) :: (bA, bO) :: (nA, nO) :: z
def Apart (src cA pA bA nA : Nat) : Prop := NeH src cA ∧ NeH src pA ∧ NeH src bA ∧ NeH cA pA ∧ NeH cA bA ∧ NeH pA bA ∧ NeH nA src ∧ NeH nA cA ∧ NeH nA pA ∧ NeH nA bA
def NotesIs (prog : Program) (w : World) (pA bA : Addr) (nO : Obj) : Prop := nO.IsDictOf (PySem.strKind prog w) [(Str.ofString "pushes", .ref pA), (Str.ofString "branches", .ref bA)]
def Off4 (src cA pA bA : Addr) (l : List (Addr × Obj)) : Prop := (∀ p ∈ l, p.1 ≠ src) ∧ (∀ p ∈ l, p.1 ≠ cA) ∧ (∀ p ∈ l, p.1 ≠ pA) ∧ (∀ p ∈ l, p.1 ≠ bA)
/-- objects made since: apart from all that was there -/
def Fresh (new : List (Addr × Obj)) (as : List Addr) (l : List (Addr × Obj)) : Prop := ∀ p ∈ new, (∀ a ∈ as, p.1 ≠ a) ∧ ∀ q ∈ l, p.1 ≠ q.1
theorem Fresh.nil {as : List Addr} {l : List (Addr × Obj)} : Fresh [] as l := fun p hp => nomatch hp
theorem Fresh.cons {x : Addr × Obj} {new : List (Addr × Obj)} {as : List Addr} {l : List (Addr × Obj)} (h1 : ∀ a ∈ as, x.1 ≠ a) (h2 : ∀ q ∈ l, x.1 ≠ q.1) (h : Fresh new as l) : Fresh (x :: new) as l := fun p hp => by
  rcases List.mem_cons.mp hp with rfl | hp
  · exact ⟨h1, h2⟩
  · exact h p hp
theorem Fresh.app {new new' : List (Addr × Obj)} {as : List Addr} {l : List (Addr × Obj)} (h : Fresh new as l) (h' : Fresh new' as l) : Fresh (new ++ new') as l := fun p hp => (List.mem_append.mp hp).elim (h p) (h' p)
theorem Fresh.sub {new : List (Addr × Obj)} {as as' : List Addr} {l l' : List (Addr × Obj)} (h : Fresh new as l) (h1 : ∀ a ∈ as', a ∈ as) (h2 : ∀ q ∈ l', q ∈ l) : Fresh new as' l' := fun p hp => ⟨fun a ha => (h p hp).1 a (h1 a ha), fun q hq => (h p hp).2 q (h2 q hq)⟩
/-- what a call that writes code does -/
def CodeC (w : World) (f : Addr) (d : Int) (cap room : Nat) : Prop := ∀ {prog : Program} {p : Program} {loose : List Str} {mean : ExcName → Option Value} {mg mb : Str → Option Value}
    {dp un : Nat} {gd : Option (List Code)} {cn : Str} {cs : Scope} {a : Addr} {ccd : Value} {cl : List (Str × Addr)} {outer : List Env} {A₀ : Around} {base h₀ : Heap} {L : Addr} {m : Str → Option Value} {s : Shared}
    {Q E : Value → Shared → Prop} {src cA pA bA nA : Addr} {sO cO pO bO nO : Obj} {u v : List (Addr × Obj)} {ks : List Int} {ps : List (Int × List Int × Int)} {bs : List (Int × Option Int × Int)} {t : Tok}
    (_B : Below A₀ base outer h₀) (_F : Fr h₀ L s.heap m) (_X : (Mine.hd.heap_39 w.params).In h₀) (_T : Top p loose mean mg mb h₀) (_hk : cs.kind = .function)
    (_N : News h₀ L s.heap (five src cA pA bA nA sO cO pO bO nO (u ++ v))) (_D : Dat5 v sO cO pO bO ks ps bs) (_hN : NotesIs prog w pA bA nO) (_hd : dp + room < recursionLimit) (_hu : un + 10 * room < cLine)
    (_off : Off4 src cA pA bA (u ++ v)) (_ne : Apart src cA pA bA nA) (_hroom : ks.length + cap ≤ 1900)
    (_hret : ∀ h' tk' sO' cO' pO' bO' seg ps' bs' new, Fr h₀ L h' m → News h₀ L h' (five src cA pA bA nA sO' cO' pO' bO' nO (u ++ (new ++ v))) → Dat5 (new ++ v) sO' cO' pO' bO' (ks ++ seg) (ps ++ ps') (bs ++ bs') → Seg seg → seg.length ≤ cap →
      (∀ x ∈ ps', PushAt (ks ++ seg) x) → (∀ x ∈ bs', BranchAt (ks ++ seg) x) → Fresh new [src, cA, pA, bA, nA] (u ++ v) → Q .none { s with heap := h', toks := tk' }),
    wpAny (model prog w) (ktrTop dp un gd cn cs L a ccd cl outer) (call (.ref f) [.ref src, .ref cA, .ref nA, .int d t]) Q E s
/-- between the turns of _law_code -/
def CodeJ (src cA pA bA nA I : Addr) (nO : Obj) (u v : List (Addr × Obj)) (ks : List Int) (ps : List (Int × List Int × Int)) (bs : List (Int × Option Int × Int)) (per i : Nat) (nw : List (Addr × Obj)) : Prop :=
  ∃ sO cO pO bO seg ps' bs' new, nw = five src cA pA bA nA sO cO pO bO nO (u ++ (new ++ v)) ∧ Dat5 (new ++ v) sO cO pO bO (ks ++ seg) (ps ++ ps') (bs ++ bs') ∧ Seg seg ∧ seg.length ≤ i * per ∧
    (∀ x ∈ ps', PushAt (ks ++ seg) x) ∧ (∀ x ∈ bs', BranchAt (ks ++ seg) x) ∧ Fresh new [I, src, cA, pA, bA, nA] (u ++ v)
section
variable {h₀ h' : Heap} {L I src cA pA bA nA : Addr} {m' m₀ : Str → Option Value} {it nO o' : Obj} {u v new z : List (Addr × Obj)} {ks seg : List Int} {ps ps' : List (Int × List Int × Int)} {bs bs' : List (Int × Option Int × Int)} {per i tk : Nat} {s₁ : Shared} {stored : List Str}
    {cv pv bv : List Value} {c_n pn bn : Nat}
theorem off_I (hI : ∀ q ∈ u ++ v, q.1 ≠ I) (hI2 : NeH src I ∧ NeH cA I ∧ NeH pA I ∧ NeH bA I ∧ NeH nA I) (hfr : Fresh new [I, src, cA, pA, bA, nA] (u ++ v)) {sO cO pO bO : Obj} :
    ∀ p ∈ five src cA pA bA nA sO cO pO bO nO (u ++ (new ++ v)), p.1 ≠ I := by
  obtain ⟨e1, e2, e3, e4, e5⟩ := hI2
  intro p hp
  simp only [five, List.mem_cons, List.mem_append] at hp
  rcases hp with rfl | rfl | rfl | rfl | rfl | hp | hp | hp
  · exact e1
  · exact e2
  · exact e3
  · exact e4
  · exact e5
  · exact hI p (List.mem_append_left _ hp)
  · exact (hfr p hp).1 I (.head _)
  · exact hI p (List.mem_append_right _ hp)
theorem end_plain {l : Addr} {lo : Obj} {c : Int} {ct : Tok} (F : Fr h₀ L h' m')
    (N : News h₀ L h' ((l, lo) :: (I, it) :: (src, o') :: (cA, listOf (cv.toArray.push (.int c ct)) (c_n + 1)) :: (pA, listOf pv.toArray pn) :: (bA, listOf bv.toArray bn) :: (nA, nO) :: z))
    (hz : u ++ (new ++ v) = z) (hs : Src o') (hc : IntsAre cv (ks ++ seg)) (hp : PushesIn (new ++ v) pv (ps ++ ps')) (hb : BranchesIn (new ++ v) bv (bs ++ bs'))
    (hpl : ps.length + ps'.length ≤ ks.length + seg.length) (hbl : bs.length + bs'.length ≤ ks.length + seg.length) (hcm : c ∈ [32, 69, 90]) (hseg : Seg seg) (hsl : seg.length ≤ i * per) (h8 : 8 ≤ per)
    (hps : ∀ x ∈ ps', PushAt (ks ++ seg) x) (hbs : ∀ x ∈ bs', BranchAt (ks ++ seg) x) (hfr : Fresh new [I, src, cA, pA, bA, nA] (u ++ v)) (hI : ∀ q ∈ u ++ v, q.1 ≠ I) (hI2 : NeH src I ∧ NeH cA I ∧ NeH pA I ∧ NeH bA I ∧ NeH nA I)
    (hm : ∀ z, stored.contains z = false → m' z = m₀ z) :
    UnrEnd h₀ L s₁ I it (fun m' nw' => (∀ z, stored.contains z = false → m' z = m₀ z) ∧ CodeJ src cA pA bA nA I nO u v ks ps bs per (i + 1) nw') { s₁ with heap := h', toks := tk } := by
  subst hz
  refine UnrEnd.intro F N (five src cA pA bA nA o' (listOf (cv ++ [Value.int c ct]).toArray (c_n + 1)) (listOf pv.toArray pn) (listOf bv.toArray bn) nO (u ++ (new ++ v))) ?_ (off_I hI hI2 hfr) ⟨hm, _, _, _, _, seg ++ [c], ps', bs', new, rfl, ⟨hs, ⟨_, _, rfl, ?_⟩, ⟨_, _, rfl, hp⟩, ⟨_, _, rfl, hb⟩, ?_, ?_⟩, hseg.app (.plain hcm .nil), ?_, ?_, ?_, hfr⟩
  · intro p hp
    simp only [List.push_toArray] at N ⊢
    exact .tail _ hp
  · rw [← List.append_assoc]; exact ints_snoc hc
  · simp only [List.length_append]; omega
  · simp only [List.length_append]; omega
  · rw [List.length_append, Nat.add_mul]; simp only [List.length_cons, List.length_nil]; omega
  · intro x hx; rw [← List.append_assoc]; exact (hps x hx).app
  · intro x hx; rw [← List.append_assoc]; exact (hbs x hx).app
theorem ints_app {xs ys : List Value} {ns ms : List Int} (h : IntsAre xs ns) (h' : IntsAre ys ms) : IntsAre (xs ++ ys) (ns ++ ms) := by
  induction h with
  | nil => exact h'
  | cons _ _ _ ih => exact .cons _ _ ih
theorem end_push {D r lo lw : Addr} {b e : Int} {t t' : Tok} {ov wv : List Value} {on wn : Nat} {p ws : List Int} {rO : Obj} (F : Fr h₀ L h' m')
    (N : News h₀ L h' ((D, ({ cls := .type "tuple", data := .seq #[.int b t, .ref lw, .int e t'] } : Obj)) :: (r, rO) :: (lo, listOf ov.toArray on) :: (lw, listOf wv.toArray wn) :: (I, it) :: (src, o') :: (cA, listOf (cv ++ ov).toArray (c_n + 1)) :: (pA, listOf (pv.toArray.push (.ref D)) (pn + 1)) :: (bA, listOf bv.toArray bn) :: (nA, nO) :: z))
    (l1 : AllLt D ((r, rO) :: (lo, listOf ov.toArray on) :: (lw, listOf wv.toArray wn) :: (I, it) :: (src, o') :: (cA, listOf cv.toArray c_n) :: (pA, listOf pv.toArray pn) :: (bA, listOf bv.toArray bn) :: (nA, nO) :: z))
    (n3 : LCg.Off1 lw ((I, it) :: (src, o') :: (cA, listOf cv.toArray c_n) :: (pA, listOf pv.toArray pn) :: (bA, listOf bv.toArray bn) :: (nA, nO) :: z))
    (hpp : PushSeg p ws) (i1 : IntsAre ov p) (i2 : IntsAre wv ws) (hbe : b = (cv.length : Int)) (hee : e = (cv.length : Int) + ov.length)
    (hz : u ++ (new ++ v) = z) (hs : Src o') (hc : IntsAre cv (ks ++ seg)) (hp : PushesIn (new ++ v) pv (ps ++ ps')) (hb : BranchesIn (new ++ v) bv (bs ++ bs'))
    (hpl : ps.length + ps'.length ≤ ks.length + seg.length) (hbl : bs.length + bs'.length ≤ ks.length + seg.length) (hseg : Seg seg) (hsl : seg.length ≤ i * per) (h8 : 8 ≤ per)
    (hps : ∀ x ∈ ps', PushAt (ks ++ seg) x) (hbs : ∀ x ∈ bs', BranchAt (ks ++ seg) x) (hfr : Fresh new [I, src, cA, pA, bA, nA] (u ++ v)) (hI : ∀ q ∈ u ++ v, q.1 ≠ I) (hI2 : NeH src I ∧ NeH cA I ∧ NeH pA I ∧ NeH bA I ∧ NeH nA I)
    (hm : ∀ z, stored.contains z = false → m' z = m₀ z) :
    UnrEnd h₀ L s₁ I it (fun m' nw' => (∀ z, stored.contains z = false → m' z = m₀ z) ∧ CodeJ src cA pA bA nA I nO u v ks ps bs per (i + 1) nw') { s₁ with heap := h', toks := tk } := by
  subst hz
  have pl := hpp.len
  have kc := hc.length
  have ko := i1.length
  have lt := kst_ltOf l1
  have n3' := fun q hq => ne_off1 n3 q hq
  have hfr' : Fresh ((D, ({ cls := .type "tuple", data := .seq #[.int b t, .ref lw, .int e t'] } : Obj)) :: (lw, listOf wv.toArray wn) :: new) [I, src, cA, pA, bA, nA] (u ++ v) := by
    refine Fresh.cons ?_ ?_ (Fresh.cons ?_ ?_ hfr)
    · have lt' : ∀ q, q ∈ (_ : List (Addr × Obj)) → D ≠ q.1 := fun q hq => Nat.ne_of_gt (lt q hq)
      exact List.forall_mem_cons.mpr ⟨lt' (_, it) (by k_mem), List.forall_mem_cons.mpr ⟨lt' (_, o') (by k_mem), List.forall_mem_cons.mpr ⟨lt' (_, listOf cv.toArray c_n) (by k_mem), List.forall_mem_cons.mpr ⟨lt' (_, listOf pv.toArray pn) (by k_mem), List.forall_mem_cons.mpr ⟨lt' (_, listOf bv.toArray bn) (by k_mem), List.forall_mem_cons.mpr ⟨lt' (_, nO) (by k_mem), fun _ h => nomatch h⟩⟩⟩⟩⟩⟩
    · intro q hq
      refine Ne.symm (Nat.ne_of_lt (lt q ?_))
      iterate 9 refine .tail _ ?_
      show q ∈ u ++ (new ++ v)
      simp only [List.mem_append] at hq ⊢
      exact hq.elim .inl fun h => .inr (.inr h)
    · exact List.forall_mem_cons.mpr ⟨Ne.symm (n3' (_, it) (by k_mem)), List.forall_mem_cons.mpr ⟨Ne.symm (n3' (_, o') (by k_mem)), List.forall_mem_cons.mpr ⟨Ne.symm (n3' (_, listOf cv.toArray c_n) (by k_mem)), List.forall_mem_cons.mpr ⟨Ne.symm (n3' (_, listOf pv.toArray pn) (by k_mem)), List.forall_mem_cons.mpr ⟨Ne.symm (n3' (_, listOf bv.toArray bn) (by k_mem)), List.forall_mem_cons.mpr ⟨Ne.symm (n3' (_, nO) (by k_mem)), fun _ h => nomatch h⟩⟩⟩⟩⟩⟩
    · intro q hq
      refine Ne.symm (n3' q ?_)
      iterate 6 refine .tail _ ?_
      show q ∈ u ++ (new ++ v)
      simp only [List.mem_append] at hq ⊢
      exact hq.elim .inl fun h => .inr (.inr h)
  refine UnrEnd.intro F N (five src cA pA bA nA o' (listOf (cv ++ ov).toArray (c_n + 1)) (listOf (pv ++ [Value.ref D]).toArray (pn + 1)) (listOf bv.toArray bn) nO (u ++ ((D, ({ cls := .type "tuple", data := .seq #[.int b t, .ref lw, .int e t'] } : Obj)) :: (lw, listOf wv.toArray wn) :: new ++ v))) ?_ (off_I hI hI2 hfr')
    ⟨hm, _, _, _, _, seg ++ p, ps' ++ [(b, ws, e)], bs', _, rfl, ⟨hs, ⟨_, _, rfl, ?_⟩, ⟨_, _, rfl, ?_⟩, ⟨_, _, rfl, hb.mono fun p hp => ?_⟩, ?_, ?_⟩, hseg.app (by simpa using Seg.push hpp .nil), ?_, ?_, ?_, hfr'⟩
  · simp only [List.push_toArray] at N ⊢
    refine List.forall_mem_cons.mpr ⟨by k_mem, List.forall_mem_cons.mpr ⟨by k_mem, List.forall_mem_cons.mpr ⟨by k_mem, List.forall_mem_cons.mpr ⟨by k_mem, List.forall_mem_cons.mpr ⟨by k_mem, List.forall_mem_cons.mpr ⟨by k_mem, fun q hq => ?_⟩⟩⟩⟩⟩⟩
    rcases List.mem_append.mp hq with hq | hq
    · iterate 10 refine List.Mem.tail _ ?_
      exact List.mem_append_left _ hq
    · rcases List.mem_cons.mp hq with rfl | hq
      · exact .head _
      · rcases List.mem_cons.mp hq with rfl | hq
        · exact .tail _ (.tail _ (.tail _ (.head _)))
        · iterate 10 refine List.Mem.tail _ ?_
          exact List.mem_append_right _ hq
  · rw [← List.append_assoc]; exact ints_app hc i1
  · rw [← List.append_assoc]
    exact (hp.mono fun p hp => .tail _ (.tail _ hp)).snoc (.head _) (.tail _ (.head _)) i2
  · exact .tail _ (.tail _ hp)
  · simp only [List.length_append, List.length_cons, List.length_nil]; omega
  · simp only [List.length_append]; omega
  · rw [List.length_append, Nat.add_mul]; omega
  · intro x hx
    rw [← List.append_assoc]
    rcases List.mem_append.mp hx with hx | hx
    · exact (hps x hx).app
    · rw [List.mem_singleton.mp hx]
      exact ⟨ks ++ seg, p, [], by simp, hpp, by rw [hbe, kc], by rw [hee, kc, ko]⟩
  · intro x hx; rw [← List.append_assoc]; exact (hbs x hx).app
end
end Mine

-- PL
namespace Mine
open PySem PySem.W PySem.Spec PySem.Calls PyProof.Rows
set_option maxRecDepth 100000
set_option maxHeartbeats 0
theorem getD_pre (pre l : List Int) (i : Nat) : (pre ++ l).getD (pre.length + i) 0 = l.getD i 0 := by
  simp [List.getD_eq_getElem?_getD, List.getElem?_append_right]
theorem getD_pre0 (pre l : List Int) : (pre ++ l).getD ((pre.length : Int)).toNat 0 = l.getD 0 0 := getD_pre pre l 0
theorem shape_pre (pre l : List Int) : shapeF (pre ++ l) pre.length = (shapeF l 0).map fun s => ((pre.length : Int) + s.1, s.2) := by
  unfold shapeF
  have e1 : ((pre.length : Int) + 1).toNat = pre.length + 1 := by omega
  have e0 : ((0 : Int) + 1).toNat = 1 := rfl
  dsimp only
  rw [getD_pre0, e1, getD_pre, e0]
  simp only [List.length_append, Int.toNat_zero]
  split
  · by_cases h : (0 : Int) + 1 < (l.length : Int)
    · rw [if_pos h, if_pos (by omega)]; simp
    · rw [if_neg h, if_neg (by omega)]; rfl
  · simp
theorem next_pre (pre l : List Int) : nextF (pre ++ l) pre.length = (nextF l 0).map fun x => (pre.length : Int) + x := by
  unfold nextF
  rw [getD_pre0, shape_pre]
  simp only [List.length_append, Int.toNat_zero]
  by_cases h : (0 : Int) < (l.length : Int)
  · rw [if_pos h, if_pos (by omega)]
    split
    · (cases shapeF l 0) <;> simp [Int.add_assoc]
    · simp
  · rw [if_neg h, if_neg (by omega)]; rfl
theorem tn_add {a : Nat} {x : Int} (h : 0 ≤ x) : ((a : Int) + x).toNat = a + x.toNat := by
  obtain ⟨n, rfl⟩ := Int.eq_ofNat_of_zero_le h; rfl
theorem push_pre (pre l : List Int) : pushF (pre ++ l) pre.length = (pushF l 0).map fun s => (s.1, (pre.length : Int) + s.2) := by
  unfold pushF
  rw [shape_pre]
  cases h : shapeF l 0 with
  | none => rfl
  | some v =>
    obtain ⟨x, y, z⟩ := v
    have hx : 0 ≤ x := by
      unfold shapeF at h
      dsimp only at h
      split at h
      · split at h <;> cases h; omega
      · cases h; omega
    simp only [Option.map_some, List.length_append]
    cases z
    · dsimp only
      by_cases q : x + y ≤ (l.length : Int)
      · rw [if_pos q, if_pos (by omega)]
        have : ((pre.length : Int) + x).toNat = pre.length + x.toNat := tn_add hx
        rw [this, List.drop_append, List.drop_of_length_le (by omega), List.nil_append, Nat.add_sub_cancel_left]
        simp [Int.add_assoc]
      · rw [if_neg q, if_neg (by omega)]; rfl
    · dsimp only
      by_cases q : x + 2 * y ≤ (l.length : Int)
      · rw [if_pos q, if_pos (by omega)]
        simp only [Option.map_some, Option.some.injEq, Prod.mk.injEq]
        refine ⟨List.map_congr_left fun i _ => ?_, by omega⟩
        unfold wordAt
        have hx2 : 0 ≤ x + 2 * (i : Int) := Int.add_nonneg hx (Int.natCast_nonneg (2 * i))
        have e1 : ((pre.length : Int) + x + 2 * (i : Int)).toNat = pre.length + (x + 2 * (i : Int)).toNat := by rw [Int.add_assoc]; exact tn_add hx2
        have e2 : ((pre.length : Int) + x + 2 * (i : Int) + 1).toNat = pre.length + (x + 2 * (i : Int) + 1).toNat := by rw [Int.add_assoc, Int.add_assoc, ← Int.add_assoc x]; exact tn_add (Int.le_trans hx2 (Int.le_add_one (Int.le_refl _)))
        rw [e1, e2, getD_pre, getD_pre]
      · rw [if_neg q, if_neg (by omega)]; rfl
theorem odd_in {x : Int} (h : x ∈ oddL) : 0 ≤ x ∧ x < 256 := (by decide : ∀ x ∈ oddL, 0 ≤ x ∧ x < 256) x h
/-- the heads of a push, and how many it holds -/
def HeadOk (p ws : List Int) : Prop := ∃ h r, p = h :: r ∧ (h = 64 ∨ h = 65 ∨ h = 176 ∨ h = 177 ∨ h = 178 ∨ h = 184 ∨ h = 185 ∨ h = 186) ∧ (∀ x ∈ p, 0 ≤ x ∧ x < 256) ∧ 1 ≤ ws.length ∧ ws.length ≤ 3
theorem inter_all {P : Int → Prop} : ∀ {ps : List (Int × Int)}, (∀ q ∈ ps, P q.1 ∧ P q.2) → ∀ x ∈ inter ps, P x
  | [], _, _, hx => nomatch hx
  | q :: r, h, x, hx => by
    rcases List.mem_cons.mp hx with rfl | hx
    · exact (h q (.head _)).1
    · rcases List.mem_cons.mp hx with rfl | hx
      · exact (h q (.head _)).2
      · exact inter_all (fun q' hq => h q' (.tail _ hq)) x hx
theorem n123 {n : Nat} (h1 : 1 ≤ n) (h3 : n ≤ 3) : n = 1 ∨ n = 2 ∨ n = 3 := by omega
theorem n123i {n : Nat} (h1 : 1 ≤ n) (h3 : n ≤ 3) : (n : Int) = 1 ∨ (n : Int) = 2 ∨ (n : Int) = 3 := by
  rcases n123 h1 h3 with rfl | rfl | rfl
  · exact .inl rfl
  · exact .inr (.inl rfl)
  · exact .inr (.inr rfl)
theorem hd_sb {n : Nat} (h : n = 1 ∨ n = 2 ∨ n = 3) : 175 + (n : Int) = 64 ∨ 175 + (n : Int) = 65 ∨ 175 + (n : Int) = 176 ∨ 175 + (n : Int) = 177 ∨ 175 + (n : Int) = 178 ∨ 175 + (n : Int) = 184 ∨ 175 + (n : Int) = 185 ∨ 175 + (n : Int) = 186 := by
  rcases h with rfl | rfl | rfl <;> decide
theorem hd_sw {n : Nat} (h : n = 1 ∨ n = 2 ∨ n = 3) : 183 + (n : Int) = 64 ∨ 183 + (n : Int) = 65 ∨ 183 + (n : Int) = 176 ∨ 183 + (n : Int) = 177 ∨ 183 + (n : Int) = 178 ∨ 183 + (n : Int) = 184 ∨ 183 + (n : Int) = 185 ∨ 183 + (n : Int) = 186 := by
  rcases h with rfl | rfl | rfl <;> decide
theorem oct_all {c : Int} {l : List Int} (hc : 0 ≤ c ∧ c < 256) (hl : ∀ x ∈ l, x ∈ oddL) : ∀ x ∈ c :: l, 0 ≤ x ∧ x < 256 := List.forall_mem_cons.mpr ⟨hc, fun x hx => odd_in (hl x hx)⟩
theorem oct_n {n : Nat} (h3 : n ≤ 3) : 0 ≤ (n : Int) ∧ (n : Int) < 256 := by omega
theorem oct_175 {n : Nat} (h3 : n ≤ 3) : 0 ≤ 175 + (n : Int) ∧ 175 + (n : Int) < 256 := by omega
theorem oct_183 {n : Nat} (h3 : n ≤ 3) : 0 ≤ 183 + (n : Int) ∧ 183 + (n : Int) < 256 := by omega
theorem PushSeg.head {p ws : List Int} (h : PushSeg p ws) : HeadOk p ws := by
  cases h with
  | b h1 h2 h3 => exact ⟨_, _, rfl, .inl rfl, List.forall_mem_cons.mpr ⟨by decide, oct_all (oct_n h2) h3⟩, h1, h2⟩
  | sb h1 h2 h3 => exact ⟨_, _, rfl, hd_sb (n123 h1 h2), oct_all (oct_175 h2) h3, h1, h2⟩
  | w h1 h2 h3 => exact ⟨_, _, rfl, .inr (.inl rfl), List.forall_mem_cons.mpr ⟨by decide, oct_all (oct_n h2) (inter_all h3)⟩, (List.length_map _).symm ▸ h1, (List.length_map _).symm ▸ h2⟩
  | sw h1 h2 h3 => exact ⟨_, _, rfl, hd_sw (n123 h1 h2), oct_all (oct_183 h2) (inter_all h3), (List.length_map _).symm ▸ h1, (List.length_map _).symm ▸ h2⟩
theorem word_eq {x u : Int} (h : x ∈ oddL) (h' : u ∈ oddL) : signed (x * 256 + u) = wordOf (x, u) := by
  have h1 := odd_in h
  have h2 := odd_in h'
  unfold signed wordOf
  simp only [decide_eq_true_eq]
  split <;> split <;> omega
theorem shape_l {op n : Int} {r : List Int} (h : op = 64 ∨ op = 65) : shapeF (op :: n :: r) 0 = some (2, n, op == 65) := by
  have : (0 : Int) + 1 < ((op :: n :: r).length : Int) := by simp only [List.length_cons]; omega
  exact (if_pos h).trans (if_pos this)
theorem shape_s {op : Int} {r : List Int} (h : op ≠ 64) (h' : op ≠ 65) : shapeF (op :: r) 0 = some (1, op.fmod 8 + 1, decide (184 ≤ op)) :=
  if_neg fun q => q.elim h h'
def TellsOk (p ws : List Int) : Prop := ∀ post : List Int, nextF (p ++ post) 0 = some (p.length : Int) ∧ pushF (p ++ post) 0 = some (ws, (p.length : Int)) ∧ pushF p.dropLast 0 = none ∧
  (∀ x y, shapeF (p ++ post) 0 = some (x, y, true) → y = 1 ∨ y = 2 ∨ y = 3) ∧ (∀ x y, shapeF p.dropLast 0 = some (x, y, true) → y = 1 ∨ y = 2 ∨ y = 3)
theorem pos_of {hd l : List Int} (h : 0 < hd.length) : (0 : Int) < ((hd ++ l).length : Int) := by rw [List.length_append]; omega
theorem cut_lt {hd l : List Int} {k : Int} (h : 1 ≤ l.length) (e : k = l.length) : ((hd ++ l.dropLast).length : Int) < (hd.length : Int) + k := by rw [List.length_append, List.length_dropLast]; omega
theorem all_le {hd l r : List Int} {k : Int} (e : k = l.length) : ¬ ((hd ++ (l ++ r)).length : Int) < (hd.length : Int) + k := by rw [List.length_append, List.length_append]; omega
theorem drop_cut {hd l : List Int} (h1 : 1 ≤ l.length) : (hd ++ l).dropLast = hd ++ l.dropLast := List.dropLast_append_of_ne_nil fun e => absurd (e ▸ h1) (by decide)
theorem tells_b {hd ws : List Int} (hp : 0 < hd.length) (sh : ∀ r, shapeF (hd ++ r) 0 = some ((hd.length : Int), (ws.length : Int), false)) (ip : ∀ r, isPush ((hd ++ r).getD 0 0) = true) (h1 : 1 ≤ ws.length) : TellsOk (hd ++ ws) ws := by
  intro post
  have sh2 := sh (ws ++ post)
  rw [List.append_assoc, drop_cut h1]
  refine ⟨?_, ?_, ?_, ?_, ?_⟩
  · rw [next_b (pos_of hp) (ip _) sh2 rfl, List.length_append]; rfl
  · rw [pushF_b sh2 (all_le (Int.one_mul _)), Int.toNat_natCast, Int.toNat_natCast, List.drop_left, List.take_left, List.length_append]; rfl
  · exact pushF_y (sh _) (cut_lt h1 (Int.one_mul _))
  · intro x y q; rw [sh2] at q; cases q
  · intro x y q; rw [sh] at q; cases q
theorem inter_get : ∀ {ps : List (Int × Int)} {i : Nat} (r : List Int) (h : i < ps.length), (inter ps ++ r).getD (2 * i) 0 = (ps[i]).1 ∧ (inter ps ++ r).getD (2 * i + 1) 0 = (ps[i]).2
  | _ :: _, 0, _, _ => ⟨rfl, rfl⟩
  | _ :: _, _ + 1, r, h => inter_get r (Nat.lt_of_succ_lt_succ h)
theorem word_at {hd r : List Int} {ps : List (Int × Int)} {i : Nat} (h : i < ps.length) (hm : ∀ q ∈ ps, q.1 ∈ oddL ∧ q.2 ∈ oddL) : wordAt (hd ++ (inter ps ++ r)) hd.length (i : Int) = wordOf ps[i] := by
  have e1 : ((hd.length : Int) + 2 * (i : Int)).toNat = hd.length + 2 * i := rfl
  have e2 : ((hd.length : Int) + 2 * (i : Int) + 1).toNat = hd.length + (2 * i + 1) := rfl
  have g := inter_get r h
  have m := hm _ (List.getElem_mem h)
  unfold wordAt
  rw [e1, e2, getD_pre, getD_pre, g.1, g.2]
  exact word_eq m.1 m.2
theorem two_len {ps : List (Int × Int)} : 2 * (ps.length : Int) = ((inter ps).length : Int) := by rw [inter_len2]; rfl
theorem tells_w {hd : List Int} {ps : List (Int × Int)} (hp : 0 < hd.length) (sh : ∀ r, shapeF (hd ++ r) 0 = some ((hd.length : Int), (ps.length : Int), true)) (ip : ∀ r, isPush ((hd ++ r).getD 0 0) = true) (h1 : 1 ≤ ps.length) (h3 : ps.length ≤ 3)
    (hm : ∀ q ∈ ps, q.1 ∈ oddL ∧ q.2 ∈ oddL) : TellsOk (hd ++ inter ps) (ps.map wordOf) := by
  intro post
  have sh2 := sh (inter ps ++ post)
  have hi : 1 ≤ (inter ps).length := by rw [inter_len2]; omega
  rw [List.append_assoc, drop_cut hi]
  refine ⟨?_, ?_, ?_, ?_, ?_⟩
  · rw [next_w (pos_of hp) (ip _) sh2 rfl, two_len, List.length_append]; rfl
  · rw [pushF_w sh2 (all_le two_len), two_len, Int.toNat_natCast, List.length_append]
    refine congrArg some (Prod.ext (List.ext_getElem ((List.length_map _).trans (List.length_range.trans (List.length_map _).symm)) fun i a b => ?_) rfl)
    rw [List.getElem_map, List.getElem_map, List.getElem_range]
    exact word_at _ hm
  · exact pushF_x (sh _) (cut_lt hi two_len)
  · intro x y q; rw [sh2] at q; cases q; exact n123i h1 h3
  · intro x y q; rw [sh] at q; cases q; exact n123i h1 h3
theorem sh_sb {n : Nat} (h : n = 1 ∨ n = 2 ∨ n = 3) (r : List Int) : shapeF ([175 + (n : Int)] ++ r) 0 = some (1, (n : Int), false) ∧ isPush (([175 + (n : Int)] ++ r).getD 0 0) = true := by
  rcases h with rfl | rfl | rfl <;> exact ⟨shape_s (by decide) (by decide), rfl⟩
theorem sh_sw {n : Nat} (h : n = 1 ∨ n = 2 ∨ n = 3) (r : List Int) : shapeF ([183 + (n : Int)] ++ r) 0 = some (1, (n : Int), true) ∧ isPush (([183 + (n : Int)] ++ r).getD 0 0) = true := by
  rcases h with rfl | rfl | rfl <;> exact ⟨shape_s (by decide) (by decide), rfl⟩
theorem PushSeg.tells {p ws : List Int} (h : PushSeg p ws) : TellsOk p ws := by
  cases h with
  | b h1 h2 h3 => exact tells_b (hd := [64, (ws.length : Int)]) (Nat.zero_lt_succ _) (fun r => shape_l (.inl rfl)) (fun _ => rfl) h1
  | sb h1 h2 h3 => exact tells_b (hd := [175 + (ws.length : Int)]) (Nat.zero_lt_succ _) (fun r => (sh_sb (n123 h1 h2) r).1) (fun r => (sh_sb (n123 h1 h2) r).2) h1
  | w h1 h2 h3 => exact tells_w (hd := [65, _]) (Nat.zero_lt_succ _) (fun r => shape_l (.inr rfl)) (fun _ => rfl) h1 h2 h3
  | sw h1 h2 h3 => exact tells_w (hd := [183 + _]) (Nat.zero_lt_succ _) (fun r => (sh_sw (n123 h1 h2) r).1) (fun r => (sh_sw (n123 h1 h2) r).2) h1 h2 h3
section
variable {K : List Int} {x : Int × List Int × Int}
theorem PushAt.next (h : PushAt K x) : nextF K x.1 = some x.2.2 := by
  obtain ⟨pre, p, post, rfl, h, e1, e2⟩ := h
  rw [e1, e2, next_pre, (h.tells post).1]; rfl
theorem PushAt.tells (h : PushAt K x) : pushF K x.1 = some (x.2.1, x.2.2) := by
  obtain ⟨pre, p, post, rfl, h, e1, e2⟩ := h
  rw [e1, e2, push_pre, (h.tells post).2.1]; rfl
theorem PushAt.few (h : PushAt K x) : ∀ a b, shapeF K x.1 = some (a, b, true) → b = 1 ∨ b = 2 ∨ b = 3 := by
  obtain ⟨pre, p, post, rfl, h, e1, e2⟩ := h
  intro a b q
  rw [e1, shape_pre, Option.map_eq_some_iff] at q
  obtain ⟨⟨a', b'⟩, q, q'⟩ := q
  cases q'
  exact (h.tells post).2.2.2.1 _ _ q
theorem take_cut {pre p post : List Int} (h : p ≠ []) : (pre ++ (p ++ post)).take (pre.length + p.length - 1) = pre ++ p.dropLast := by
  have : 0 < p.length := List.length_pos_iff.mpr h
  rw [List.take_append, List.take_of_length_le (by omega), List.take_append, List.dropLast_eq_take]
  have e : pre.length + p.length - 1 - pre.length = p.length - 1 := by rw [Nat.add_sub_assoc this, Nat.add_sub_cancel_left]
  rw [e, show p.length - 1 - p.length = 0 by omega, List.take_zero, List.append_nil]
theorem PushSeg.ne {p ws : List Int} (h : PushSeg p ws) : p ≠ [] := by
  obtain ⟨h, r, rfl, _⟩ := h.head
  exact List.cons_ne_nil _ _
theorem PushAt.cut (h : PushAt K x) : ∃ pre, K.take (x.2.2 - 1).toNat = pre ∧ pushF pre x.1 = none ∧ ∀ a b, shapeF pre x.1 = some (a, b, true) → b = 1 ∨ b = 2 ∨ b = 3 := by
  obtain ⟨pre, p, post, rfl, h, e1, e2⟩ := h
  refine ⟨pre ++ p.dropLast, ?_, ?_, ?_⟩
  · rw [e2, show ((pre.length : Int) + p.length - 1).toNat = pre.length + p.length - 1 from Int.toNat_sub (pre.length + p.length) 1]
    exact take_cut h.ne
  · rw [e1, push_pre, (h.tells []).2.2.1]; rfl
  · intro a b q
    rw [e1, shape_pre, Option.map_eq_some_iff] at q
    obtain ⟨⟨a', b'⟩, q, q'⟩ := q
    cases q'
    exact (h.tells []).2.2.2.2 _ _ q
theorem PushAt.bounds (h : PushAt K x) : 0 ≤ x.1 ∧ x.1 < x.2.2 ∧ x.2.2 ≤ K.length ∧ 1 ≤ x.2.1.length ∧ x.2.1.length ≤ 3 := by
  obtain ⟨pre, p, post, rfl, h, e1, e2⟩ := h
  obtain ⟨_, _, _, _, _, l1, l2⟩ := h.head
  have : 0 < p.length := List.length_pos_iff.mpr h.ne
  simp only [List.length_append]
  omega
end
/-- the runs from a place on are told by the runs behind it -/
theorem next_one {pre l : List Int} {c : Int} (h : isPush c = false) : nextF (pre ++ c :: l) pre.length = some ((pre ++ [c]).length : Int) := by
  rw [next_pre]
  have : nextF (c :: l) 0 = some 1 := by
    unfold nextF
    rw [if_pos (by simp only [List.length_cons]; omega)]
    simp [h]
  rw [this]; simp
theorem next_push {pre p ws l : List Int} (h : PushSeg p ws) : nextF (pre ++ (p ++ l)) pre.length = some ((pre ++ p).length : Int) := by
  rw [next_pre, (h.tells l).1]; simp
theorem getD_one {pre l : List Int} {c : Int} : (pre ++ c :: l).getD ((pre.length : Int)).toNat 0 = c := getD_pre0 _ _
theorem getD_push {pre p ws l : List Int} (h : PushSeg p ws) : ∃ c, (pre ++ (p ++ l)).getD ((pre.length : Int)).toNat 0 = c ∧ c ≠ 88 ∧ c ≠ 89 ∧ c ≠ 27 ∧ c ≠ 45 ∧ ([44, 137].any fun x => x == c) = false := by
  obtain ⟨c, r, rfl, hc, _⟩ := h.head
  refine ⟨c, getD_pre0 _ _, ?_⟩
  rcases hc with rfl | rfl | rfl | rfl | rfl | rfl | rfl | rfl <;> decide
section
variable {K : List Int} {we : Bool} {r : Option Int} {d : Int}
theorem BrTo.seg {a : List Int} (h : Seg a) : ∀ {d : Int}, 0 ≤ d → ∀ pre post, K = pre ++ (a ++ post) → (∃ k, BrTo K we k d ((pre ++ a).length : Int) r) → ∃ k, BrTo K we k d (pre.length : Int) r := by
  induction h with
  | nil => intro d _ pre post _ H; simpa using H
  | @plain c s hc _ ih =>
    intro d hd pre post e H
    obtain ⟨k, H⟩ := ih hd (pre ++ [c]) post (by simp [e]) (by simpa using H)
    have hc' : isPush c = false ∧ c ≠ 88 ∧ c ≠ 89 ∧ c ≠ 27 := (by decide : ∀ c ∈ [(32 : Int), 69, 90], isPush c = false ∧ c ≠ 88 ∧ c ≠ 89 ∧ c ≠ 27) c hc
    have e1 : K = pre ++ c :: (s ++ post) := by simp [e]
    have g : K.getD ((pre.length : Int)).toNat 0 = c := e1 ▸ getD_one
    exact ⟨k + 1, .on (e1 ▸ next_one hc'.1) (by rw [g]; exact hc'.2.1) (by rw [g]; exact hc'.2.2.1) (.inl (by rw [g]; exact hc'.2.2.2)) H⟩
  | @push p ws s hp _ ih =>
    intro d hd pre post e H
    obtain ⟨k, H⟩ := ih hd (pre ++ p) post (by simp [e]) (by simpa using H)
    have e1 : K = pre ++ (p ++ (s ++ post)) := by simp [e]
    obtain ⟨c, g, h1, h2, h3, _⟩ := getD_push (pre := pre) (l := s ++ post) hp
    rw [← e1] at g
    exact ⟨k + 1, .on (e1 ▸ next_push hp) (by rw [g]; exact h1) (by rw [g]; exact h2) (.inl (by rw [g]; exact h3)) H⟩
  | @if1 a s _ _ iha ihs =>
    intro d hd pre post e H
    obtain ⟨k, H⟩ := ihs hd (pre ++ 88 :: (a ++ [89])) post (by simp [e]) (by simpa using H)
    have e2 : K = (pre ++ 88 :: a) ++ 89 :: (s ++ post) := by simp [e]
    have e1 : K = pre ++ 88 :: (a ++ 89 :: (s ++ post)) := by simp [e]
    have H2 : BrTo K we (k + 1) (d + 1) ((pre ++ 88 :: a).length : Int) r := .down (e2 ▸ next_one (by decide)) (e2 ▸ getD_one) (by omega) (by rw [show d + 1 - 1 = d by omega]; simpa using H)
    obtain ⟨k', H3⟩ := iha (d := d + 1) (by omega) (pre ++ [88]) (89 :: (s ++ post)) (by simp [e]) ⟨_, by simpa using H2⟩
    exact ⟨k' + 1, .up (e1 ▸ next_one (by decide)) (e1 ▸ getD_one) H3⟩
  | @if2 a b s _ _ _ iha ihb ihs =>
    intro d hd pre post e H
    obtain ⟨k, H⟩ := ihs hd (pre ++ 88 :: (a ++ 27 :: (b ++ [89]))) post (by simp [e]) (by simpa using H)
    have e3 : K = (pre ++ 88 :: (a ++ 27 :: b)) ++ 89 :: (s ++ post) := by simp [e]
    have e2 : K = (pre ++ 88 :: a) ++ 27 :: (b ++ 89 :: (s ++ post)) := by simp [e]
    have e1 : K = pre ++ 88 :: (a ++ 27 :: (b ++ 89 :: (s ++ post))) := by simp [e]
    have H2 : BrTo K we (k + 1) (d + 1) ((pre ++ 88 :: (a ++ 27 :: b)).length : Int) r := .down (e3 ▸ next_one (by decide)) (e3 ▸ getD_one) (by omega) (by rw [show d + 1 - 1 = d by omega]; simpa using H)
    obtain ⟨k', H3⟩ := ihb (d := d + 1) (by omega) (pre ++ 88 :: (a ++ [27])) (89 :: (s ++ post)) (by simp [e]) ⟨_, by simpa using H2⟩
    have g2 : K.getD (((pre ++ 88 :: a).length : Int)).toNat 0 = 27 := e2 ▸ getD_one
    have H4 : BrTo K we (k' + 1) (d + 1) ((pre ++ 88 :: a).length : Int) r := .on (e2 ▸ next_one (by decide)) (by rw [g2]; decide) (by rw [g2]; decide) (.inr (.inl (by omega))) (by simpa using H3)
    obtain ⟨k'', H5⟩ := iha (d := d + 1) (by omega) (pre ++ [88]) (27 :: (b ++ 89 :: (s ++ post))) (by simp [e]) ⟨_, by simpa using H4⟩
    exact ⟨k'' + 1, .up (e1 ▸ next_one (by decide)) (e1 ▸ getD_one) H5⟩
/-- what the law asks of a branch -/
def BranchOk (K : List Int) (x : Int × Option Int × Int) : Prop :=
  (∃ k, BrTo K true k 0 x.1 (some (x.2.1.getD x.2.2))) ∧ (∃ k, BrTo K false k 0 x.1 (some x.2.2)) ∧ (∀ m, x.2.1 = some m → 0 ≤ m ∧ m ≤ K.length ∧ ∃ k, BrTo K false k 0 m (some x.2.2)) ∧
  (∃ k, BrTo (K.take (x.2.2 - 1).toNat) false k 0 x.1 none) ∧ 0 ≤ x.1 ∧ x.1 < x.2.2 ∧ x.2.2 ≤ K.length
theorem next_over {K : List Int} {n : Int} (h : ¬ n < K.length) : nextF K n = none := if_neg h
theorem take_pre {pre a : List Int} {n : Nat} (h : n = pre.length) : (pre ++ a).take n = pre := by subst h; simp
theorem BranchAt.ok {x : Int × Option Int × Int} (h : BranchAt K x) : BranchOk K x := by
  rcases h with ⟨pre, a, post, rfl, ha, rfl⟩ | ⟨pre, a, b, post, rfl, ha, hb, rfl⟩
  · have e1 : pre ++ (a ++ 89 :: post) = (pre ++ a) ++ 89 :: post := by simp
    have E : ∀ we, BrTo (pre ++ (a ++ 89 :: post)) we 0 0 ((pre ++ a).length : Int) (some ((pre.length : Int) + a.length + 1)) := fun we => by
      rw [e1]
      have q := BrTo.eif (we := we) (k := 0) (next_one (pre := pre ++ a) (c := 89) (l := post) (by decide)) getD_one
      simpa [Int.add_assoc] using q
    refine ⟨BrTo.seg ha (by omega) pre _ rfl ⟨0, E true⟩, BrTo.seg ha (by omega) pre _ rfl ⟨0, E false⟩, ?_, ?_, ?_⟩
    · intro m h; cases h
    · have : (pre ++ (a ++ 89 :: post)).take ((pre.length : Int) + a.length + 1 - 1).toNat = pre ++ (a ++ []) := by
        rw [e1, List.append_nil]; exact take_pre (by rw [List.length_append]; exact Int.toNat_sub (pre.length + a.length + 1) 1)
      dsimp only
      rw [this]
      exact BrTo.seg ha (by omega) pre _ rfl ⟨0, .over (next_over (by simp))⟩
    · simp only [List.length_append, List.length_cons]; omega
  · have e1 : pre ++ (a ++ 27 :: (b ++ 89 :: post)) = (pre ++ a) ++ 27 :: (b ++ 89 :: post) := by simp
    have e2 : pre ++ (a ++ 27 :: (b ++ 89 :: post)) = (pre ++ (a ++ 27 :: b)) ++ 89 :: post := by simp
    have e3 : pre ++ (a ++ 27 :: (b ++ 89 :: post)) = (pre ++ (a ++ [27])) ++ (b ++ 89 :: post) := by simp
    have E : BrTo (pre ++ (a ++ 27 :: (b ++ 89 :: post))) false 0 0 ((pre ++ (a ++ 27 :: b)).length : Int) (some ((pre.length : Int) + a.length + 1 + b.length + 1)) := by
      rw [e2]
      have q := BrTo.eif (we := false) (k := 0) (next_one (pre := pre ++ (a ++ 27 :: b)) (c := 89) (l := post) (by decide)) getD_one
      have r : ((pre ++ (a ++ 27 :: b) ++ [89]).length : Int) = (pre.length : Int) + a.length + 1 + b.length + 1 := by simp; omega
      rw [r] at q; exact q
    have M : ∃ k, BrTo (pre ++ (a ++ 27 :: (b ++ 89 :: post))) false k 0 ((pre ++ (a ++ [27])).length : Int) (some ((pre.length : Int) + a.length + 1 + b.length + 1)) :=
      BrTo.seg hb (by omega) (pre ++ (a ++ [27])) (89 :: post) e3 ⟨0, by simpa using E⟩
    have g : ∀ post', (pre ++ (a ++ 27 :: post')).getD (((pre ++ a).length : Int)).toNat 0 = 27 := fun post' => by
      rw [show pre ++ (a ++ 27 :: post') = (pre ++ a) ++ 27 :: post' by simp]; exact getD_one
    have nx : ∀ post', nextF (pre ++ (a ++ 27 :: post')) ((pre ++ a).length : Int) = some ((pre ++ (a ++ [27])).length : Int) := fun post' => by
      rw [show pre ++ (a ++ 27 :: post') = (pre ++ a) ++ 27 :: post' by simp, next_one (by decide)]; simp
    have lm : ((pre ++ (a ++ [27])).length : Int) = (pre.length : Int) + a.length + 1 := by simp; omega
    refine ⟨BrTo.seg ha (by omega) pre _ rfl ⟨0, ?_⟩, BrTo.seg ha (by omega) pre _ rfl ?_, ?_, ?_, ?_⟩
    · have q := BrTo.els (we := true) (k := 0) (nx (b ++ 89 :: post)) (g _) rfl
      rw [lm] at q; exact q
    · obtain ⟨k, M⟩ := M
      exact ⟨k + 1, .on (nx _) (by rw [g]; decide) (by rw [g]; decide) (.inr (.inr rfl)) M⟩
    · intro m h; cases h
      refine ⟨by omega, by simp; omega, ?_⟩
      rw [lm] at M; exact M
    · have : (pre ++ (a ++ 27 :: (b ++ 89 :: post))).take ((pre.length : Int) + a.length + 1 + b.length + 1 - 1).toNat = pre ++ (a ++ 27 :: b) := by
        rw [e2]; exact take_pre (by rw [List.length_append, List.length_append, List.length_cons]; exact (Int.toNat_sub (pre.length + a.length + 1 + b.length + 1) 1).trans (by omega))
      dsimp only
      rw [this]
      refine BrTo.seg ha (by omega) pre _ rfl ?_
      obtain ⟨k, M⟩ := BrTo.seg (K := pre ++ (a ++ 27 :: b)) (we := false) (d := 0) (r := none) hb (by omega) (pre ++ (a ++ [27])) [] (by simp) ⟨0, .over (next_over (by simp))⟩
      exact ⟨k + 1, .on (nx _) (by rw [g]; decide) (by rw [g]; decide) (.inr (.inr rfl)) M⟩
    · simp only [List.length_append, List.length_cons]; omega
end
/-- a run of instructions, whatever their nesting -/
inductive Flat : List Int → Prop
  | nil : Flat []
  | one {c : Int} {s : List Int} : c ∈ [32, 69, 90, 88, 27, 89] → Flat s → Flat (c :: s)
  | push {p ws s : List Int} : PushSeg p ws → Flat s → Flat (p ++ s)
theorem Flat.app {a b : List Int} (ha : Flat a) (hb : Flat b) : Flat (a ++ b) := by
  induction ha with
  | nil => exact hb
  | one h _ ih => exact .one h ih
  | push h _ ih => rw [List.append_assoc]; exact .push h ih
theorem Seg.flat {s : List Int} (h : Seg s) : Flat s := by
  induction h with
  | nil => exact .nil
  | plain hc _ ih => exact .one ((by decide : ∀ c ∈ [(32 : Int), 69, 90], c ∈ [(32 : Int), 69, 90, 88, 27, 89]) _ hc) ih
  | push hp _ ih => exact .push hp ih
  | if1 _ _ iha ihs => exact .one (by decide) (iha.app (.one (by decide) ihs))
  | if2 _ _ _ iha ihb ihs => exact .one (by decide) (iha.app (.one (by decide) (ihb.app (.one (by decide) ihs))))
theorem Flat.octets {s : List Int} (h : Flat s) : ∀ x ∈ s, 0 ≤ x ∧ x < 256 := by
  induction h with
  | nil => exact fun x hx => nomatch hx
  | one hc _ ih => exact List.forall_mem_cons.mpr ⟨(by decide : ∀ c ∈ [(32 : Int), 69, 90, 88, 27, 89], 0 ≤ c ∧ c < 256) _ hc, ih⟩
  | push hp _ ih =>
    obtain ⟨_, _, _, _, hh, _⟩ := hp.head
    exact fun x hx => (List.mem_append.mp hx).elim (hh x) (ih x)
section
variable {K : List Int}
theorem one_ok {c : Int} (hc : c ∈ [32, 69, 90, 88, 27, 89]) : isPush c = false ∧ c ≠ 45 ∧ ([44, 137].any fun x => x == c) = false :=
  (by decide : ∀ c ∈ [(32 : Int), 69, 90, 88, 27, 89], isPush c = false ∧ c ≠ 45 ∧ ([44, 137].any fun x => x == c) = false) c hc
theorem FnTo.flat {r : Option Int} {a : List Int} (h : Flat a) : ∀ pre post, K = pre ++ (a ++ post) → (∃ k, FnTo K k ((pre ++ a).length : Int) r) → ∃ k, FnTo K k (pre.length : Int) r := by
  induction h with
  | nil => intro pre post _ H; simpa using H
  | @one c s hc _ ih =>
    intro pre post e H
    obtain ⟨k, H⟩ := ih (pre ++ [c]) post (by simp [e]) (by simpa using H)
    obtain ⟨h1, h2, h3⟩ := one_ok hc
    have e1 : K = pre ++ c :: (s ++ post) := by simp [e]
    have g : K.getD ((pre.length : Int)).toNat 0 = c := e1 ▸ getD_one
    exact ⟨k + 1, .on (e1 ▸ next_one h1) (by rw [g]; exact h2) (by rw [g]; exact h3) H⟩
  | @push p ws s hp _ ih =>
    intro pre post e H
    obtain ⟨k, H⟩ := ih (pre ++ p) post (by simp [e]) (by simpa using H)
    have e1 : K = pre ++ (p ++ (s ++ post)) := by simp [e]
    obtain ⟨c, g, _, _, _, h4, h5⟩ := getD_push (pre := pre) (l := s ++ post) hp
    rw [← e1] at g
    exact ⟨k + 1, .on (e1 ▸ next_push hp) (by rw [g]; exact h4) (by rw [g]; exact h5) H⟩
/-- the place of an instruction of the function, and how far it has come -/
def AtIs (ks : List Int) (i : Nat) (at' : Int) : Prop := ∃ pre rest, ks = pre ++ rest ∧ Flat rest ∧ at' = pre.length ∧ (rest = [] ∨ i + 1 ≤ pre.length)
noncomputable abbrev tailL : List Int := [45, 88, 45]
theorem AtIs.bounds {ks : List Int} {i : Nat} {n : Int} (h : AtIs ks i n) : 0 ≤ n ∧ n ≤ ks.length := by
  obtain ⟨pre, rest, rfl, _, rfl, _⟩ := h
  simp only [List.length_append]; omega
theorem AtIs.fn {ks : List Int} {i : Nat} {n : Int} (h : AtIs ks i n) : ∃ k, FnTo (ks ++ tailL) k n (some ks.length) := by
  obtain ⟨pre, rest, rfl, hr, rfl, _⟩ := h
  refine FnTo.flat (K := pre ++ rest ++ tailL) hr pre tailL (by simp) ⟨0, ?_⟩
  exact .fin (by simp; omega) (getD_pre0 _ _)
theorem AtIs.step {ks : List Int} {i : Nat} {n : Int} (h : AtIs ks i n) (hn : n < ks.length) : ∃ x, nextF (ks ++ tailL) n = some x ∧ AtIs ks (i + 1) x := by
  obtain ⟨pre, rest, rfl, hr, rfl, hi⟩ := h
  cases hr with
  | nil => simp at hn
  | @one c s hc hs =>
    refine ⟨((pre ++ [c]).length : Int), ?_, pre ++ [c], s, by simp, hs, rfl, .inr ?_⟩
    · rw [show pre ++ c :: s ++ tailL = pre ++ c :: (s ++ tailL) by simp]; exact next_one (one_ok hc).1
    · rcases hi with hi | hi
      · cases hi
      · simp; omega
  | @push p ws s hp hs =>
    refine ⟨((pre ++ p).length : Int), ?_, pre ++ p, s, by simp, hs, rfl, .inr ?_⟩
    · rw [show pre ++ (p ++ s) ++ tailL = pre ++ (p ++ (s ++ tailL)) by simp]; exact next_push hp
    · have := List.length_pos_iff.mpr hp.ne
      rcases hi with hi | hi
      · exact absurd (List.append_eq_nil_iff.mp hi).1 hp.ne
      · simp; omega
theorem AtIs.stay {ks : List Int} {i : Nat} {n : Int} (h : AtIs ks i n) (hn : ¬ n < ks.length) : AtIs ks (i + 1) n := by
  obtain ⟨pre, rest, rfl, hr, rfl, hi⟩ := h
  refine ⟨pre, rest, rfl, hr, rfl, .inl ?_⟩
  simp only [List.length_append] at hn
  exact List.length_eq_zero_iff.mp (by omega)
theorem AtIs.done {ks : List Int} {i : Nat} {n : Int} (h : AtIs ks i n) (hi : ks.length ≤ i) : n = ks.length := by
  obtain ⟨pre, rest, rfl, hr, rfl, rfl | hj⟩ := h
  · simp
  · simp only [List.length_append] at hi; omega
theorem AtIs.start {s : List Int} (h : Seg s) : AtIs (44 :: s) 0 1 := ⟨[44], s, rfl, h.flat, rfl, .inr (by simp)⟩
theorem fn_cut {s : List Int} (h : Seg s) : ∃ k, FnTo (44 :: s) k 1 none :=
  FnTo.flat (K := 44 :: s) h.flat [44] [] (by simp) ⟨0, .over (by simp)⟩
theorem fn_in (s : List Int) : FnTo (44 :: s) 0 0 none := .bad (by simp) rfl
end
end Mine

section
open PySem PySem.W PySem.Spec PySem.Calls PyProof.Rows Mine
local macro_rules | `(tactic| k_all) => `(tactic| (intro p9 hp9; refine ne_off1 (by assumption) p9 ?_; repeat (first | exact hp9 | refine List.Mem.tail _ ?_)))
local macro_rules | `(tactic| k_ne) => `(tactic| (refine neN ?_; (try dsimp only); first | exact neH (by assumption) | exact neH' (by assumption) | exact ne_offm (by assumption) (by k_mem) | exact ne_offm' (by assumption) (by k_mem)))

-- T6
namespace Mine
open PySem PySem.W PySem.Spec PySem.Calls PyProof.Rows
set_option maxRecDepth 100000
set_option maxHeartbeats 0

section
variable {h₀ h' : Heap} {L I src cA pA bA nA : Addr} {m' m₀ : Str → Option Value} {it nO sO cO pO bO : Obj} {u v new new₂ : List (Addr × Obj)} {ks seg seg₂ : List Int} {ps ps' ps₂ : List (Int × List Int × Int)} {bs bs' bs₂ : List (Int × Option Int × Int)} {per i tk : Nat} {s₁ : Shared} {stored : List Str}
theorem end_branch (F : Fr h₀ L h' m') (N : News h₀ L h' (five src cA pA bA nA sO cO pO bO nO (((I, it) :: u) ++ (new₂ ++ (new ++ v))))) (D : Dat5 (new₂ ++ (new ++ v)) sO cO pO bO (ks ++ seg ++ seg₂) (ps ++ ps' ++ ps₂) (bs ++ bs' ++ bs₂))
    (hseg : Seg seg) (hseg2 : Seg seg₂) (hsl : seg.length ≤ i * per) (hsl2 : seg₂.length ≤ per) (hps : ∀ x ∈ ps', PushAt (ks ++ seg) x) (hbs : ∀ x ∈ bs', BranchAt (ks ++ seg) x) (hps2 : ∀ x ∈ ps₂, PushAt (ks ++ seg ++ seg₂) x) (hbs2 : ∀ x ∈ bs₂, BranchAt (ks ++ seg ++ seg₂) x)
    (hfr : Fresh new [I, src, cA, pA, bA, nA] (u ++ v)) (hfr2 : Fresh new₂ [src, cA, pA, bA, nA] (((I, it) :: u) ++ (new ++ v))) (hI : ∀ q ∈ u ++ v, q.1 ≠ I) (hI2 : NeH src I ∧ NeH cA I ∧ NeH pA I ∧ NeH bA I ∧ NeH nA I)
    (hm : ∀ z, stored.contains z = false → m' z = m₀ z) :
    UnrEnd h₀ L s₁ I it (fun m' nw' => (∀ z, stored.contains z = false → m' z = m₀ z) ∧ CodeJ src cA pA bA nA I nO u v ks ps bs per (i + 1) nw') { s₁ with heap := h', toks := tk } := by
  have hfr' : Fresh (new₂ ++ new) [I, src, cA, pA, bA, nA] (u ++ v) := by
    refine Fresh.app (fun p hp => ⟨fun a ha => ?_, fun q hq => (hfr2 p hp).2 q ?_⟩) hfr
    · rcases List.mem_cons.mp ha with rfl | ha
      · exact (hfr2 p hp).2 (_, it) (.head _)
      · exact (hfr2 p hp).1 a ha
    · simp only [List.mem_append, List.mem_cons] at hq ⊢
      exact hq.elim (fun h => .inl (.inr h)) (fun h => .inr (.inr h))
  have D : Dat5 (new₂ ++ new ++ v) sO cO pO bO (ks ++ (seg ++ seg₂)) (ps ++ (ps' ++ ps₂)) (bs ++ (bs' ++ bs₂)) := by simpa only [List.append_assoc] using D
  rw [List.append_assoc] at hps2 hbs2
  refine UnrEnd.intro F N (five src cA pA bA nA sO cO pO bO nO (u ++ ((new₂ ++ new) ++ v))) ?_ (off_I hI hI2 hfr') ⟨hm, _, _, _, _, seg ++ seg₂, ps' ++ ps₂, bs' ++ bs₂, new₂ ++ new, rfl, D, hseg.app hseg2, ?_, ?_, ?_, hfr'⟩
  · refine List.forall_mem_cons.mpr ⟨by k_mem, List.forall_mem_cons.mpr ⟨by k_mem, List.forall_mem_cons.mpr ⟨by k_mem, List.forall_mem_cons.mpr ⟨by k_mem, List.forall_mem_cons.mpr ⟨by k_mem, List.forall_mem_cons.mpr ⟨by k_mem, fun q hq => ?_⟩⟩⟩⟩⟩⟩
    iterate 5 refine List.Mem.tail _ ?_
    refine (List.mem_append.mp hq).elim (fun h => List.mem_append_left _ (.tail _ h)) fun h => List.mem_append_right _ ?_
    rw [← List.append_assoc]; exact h
  · rw [List.length_append, Nat.add_mul]; omega
  · intro x hx
    rcases List.mem_append.mp hx with hx | hx
    · rw [← List.append_assoc]; exact (hps x hx).app
    · exact hps2 x hx
  · intro x hx
    rcases List.mem_append.mp hx with hx | hx
    · rw [← List.append_assoc]; exact (hbs x hx).app
    · exact hbs2 x hx
theorem perm5 {z : List (Addr × Obj)} {x : Addr × Obj} (N : News h₀ L h' (x :: (src, sO) :: (cA, cO) :: (pA, pO) :: (bA, bO) :: (nA, nO) :: (u ++ z))) : News h₀ L h' (five src cA pA bA nA sO cO pO bO nO ((x :: u) ++ z)) := by
  refine List.forall_mem_cons.mpr ⟨N _ (by k_mem), List.forall_mem_cons.mpr ⟨N _ (by k_mem), List.forall_mem_cons.mpr ⟨N _ (by k_mem), List.forall_mem_cons.mpr ⟨N _ (by k_mem), List.forall_mem_cons.mpr ⟨N _ (by k_mem), List.forall_mem_cons.mpr ⟨N _ (.head _), fun q hq => N q ?_⟩⟩⟩⟩⟩⟩
  iterate 6 refine List.Mem.tail _ ?_
  exact hq
theorem off_new {u v new : List (Addr × Obj)} {as : List Addr} {x : Addr} (h : ∀ p ∈ u ++ v, p.1 ≠ x) (hfr : Fresh new as (u ++ v)) (hx : x ∈ as) : ∀ p ∈ u ++ (new ++ v), p.1 ≠ x := by
  intro p hp
  simp only [List.mem_append] at hp
  rcases hp with hp | hp | hp
  · exact h p (List.mem_append_left _ hp)
  · exact (hfr p hp).1 x hx
  · exact h p (List.mem_append_right _ hp)
end


theorem hide {P : Prop} (h : ∀ G : Prop, (P → G) → G) : P := h P id
theorem code_of_branch {w : World} {d : Int} {per room : Nat} (HB : 0 < d → CodeC w 135 d per room) (h8 : 8 ≤ per) (hr : 40 ≤ room) : CodeC w 128 d (3 * per) (room + 20) := by
  intro prog p loose mean mg mb dp un gd cn cs a ccd cl outer A₀ base h₀ L m s Q E src cA pA bA nA sO cO pO bO nO u v ks ps bs t B F X T hk N D hN hd hu off ne hroom hret
  obtain ⟨o1, o2, o3, o4⟩ := off
  have o1' := o1
  have o2' := o2
  have o3' := o3
  have o4' := o4
  have ne0 := ne
  have hN0 := hN
  unfold NotesIs at hN
  dsimp only [five] at N
  generalize hz0 : u ++ v = z0 at N o1 o2 o3 o4
  obtain ⟨a1, a2, a3, a4, a5, a6, a7, a8, a9, a10⟩ := ne
  obtain ⟨hs, ⟨cv, c_n, rfl, hc⟩, ⟨pv, pn, rfl, hp⟩, ⟨bv, bn, rfl, hb⟩, hpl, hbl⟩ := D
  w_top off
  k_with_none
  k_with "call ref" => ((k_here; (with_reducible show wpAny _ _ (call (Value.ref 109) _) _ _ _); k_dflt (refine' c_take ?B ?F ?X ?T ?hk ?N ?U ?hs ?hd ?hu ?h1 ?h2 (fun _ _ _ _ _ _ _ _ _ _ => ?_); (case B => k_asm); (case F => k_asm); (case X => k_asm); (case T => k_asm); (case hk => first | rfl | assumption); (case N => k_asm); (case U => first | assumption | k_updF); (case hs => assumption); (case hd => ktr_room); (case hu => ktr_units); (case h1 => first | omega | (simp only [List.length_cons, List.length_nil] at *; omega)); (case h2 => first | omega | (simp only [List.length_cons, List.length_nil] at *; omega))); (try k_sweep)); (all_goals (try dsimp only)))
  k_with "call ref" => ((k_here; (with_reducible show wpAny _ _ (call (Value.ref 116) _) _ _ _); k_dflt (refine' c_one ?B ?F ?X ?T ?hk ?N ?U ?hs ?hm ?hd ?hu ?hne ?htv ?h1 ?h2 (fun _ _ _ _ _ _ _ _ _ => ?_); (case B => k_asm); (case F => k_asm); (case X => k_asm); (case T => k_asm); (case hk => first | rfl | assumption); (case N => k_asm); (case U => first | assumption | k_updF); (case hs => assumption); (case hm => k_mem); (case hd => ktr_room); (case hu => ktr_units); (case hne => k_ne); (case htv => l_ints); (case h1 => first | omega | decide | (simp only [List.length_cons, List.length_nil] at *; omega)); (case h2 => first | omega | decide | (simp only [List.length_cons, List.length_nil] at *; omega))); (try k_sweep)); (all_goals (try dsimp only)))
  k_with "call ref" => ((k_here; (with_reducible show wpAny _ _ (call (Value.ref 121) _) _ _ _); k_dflt (refine' c_push ?B ?F ?X ?T ?hk ?N ?U ?hs ?hd ?hu (fun _ _ _ _ _ _ _ _ _ _ _ _ _ zqhp' zqi1' _ _ _ zqn1' zqn2' zqn3' => ?_); (case B => k_asm); (case F => k_asm); (case X => k_asm); (case T => k_asm); (case hk => first | rfl | assumption); (case N => k_asm); (case U => first | assumption | k_updF); (case hs => assumption); (case hd => ktr_room); (case hu => ktr_units)); (have zqn1' := off1_of zqn1'); (have zqn2' := off1_of zqn2'); (have zqn3' := off1_of zqn3'); (try dsimp only at zqn1' zqn2' zqn3'); (have zqpl' := PushSeg.len zqhp'); (have zqil' := IntsAre.length zqi1'); (try k_sweep)); (all_goals (try dsimp only)))
  k_with "subscriptTail" => (k_here; (with_reducible show wpAny _ _ (subscriptTail _ _ (Value.ref _) (Value.str _ _)) _ _ _); k_dflt (refine kda_item (knd := PySem.strKind _ _) (by k_asm) (by k_mem) (by assumption) (strKind_is _ _ _ _) (by rfl) ?_))
  k_with "call builtin:list.append" => (k_here; (with_reducible show wpAny _ _ (call (Value.builtin _) [Value.ref _, _]) _ _ _); k_dflt (refine' append_K ?k1 ?k2 ?k3 ?_ ?z; (case k1 => k_asm); (case k2 => k_asm); (case k3 => k_upd); (case z => (rw [sizeLine_eq]; simp only [List.size_toArray, Array.size_push]; omega)); k_whole); intro _ _ _; (try k_sweep))
  k_with "call builtin:list.extend" => (k_here; (with_reducible show wpAny _ _ (call (Value.builtin _) [Value.ref _, Value.ref _]) _ _ _); k_dflt (refine' ext_K ?F ?N ?b ?ne ?U ?z ?_; (case F => k_asm); (case N => k_asm); (case b => k_mem); (case U => k_upd); (case ne => omega); (case z => omega));  intro _ _ _; (try k_sweep))
  k_with "call type:range" => ((rename Fr _ _ _ _ => zqF'); (rename News _ _ _ _ => zqN'); (with_unfolding_all refine range1_rows zqF' zqN' ?_; intro _ _ _ _ _ _ _ _ _))
  k_with "pyIter ref" => (k_here; refine hold ?_)
  k_with "exec For Name Call cons nil" => (k_here; (rename Fr _ _ _ _ => zqlF'); (with_unfolding_all refine' For_invVF zqlF' ?k1 ?k2 ?_; (case k1 => exact rfl); (case k2 => exact rfl); k_whole))
  k_with "UnrEnd" => (k_here; refine hold ?_)
  k_with "call ref" => (k_here; (with_reducible show wpAny _ _ (call (Value.ref 135) _) _ _ _); refine hold ?_)
  k_with "execs cons" => (k_here; dsimp only)
  k_with "execs cons" => (k_here; with_reducible refine q_tok (fun tk => ?_))
  k_with "execs cons" => (k_here; k_fold)
  refine wpAny_call ?_
  k_dflt ktr_enter
  rename Fr _ _ _ (fun y => List.lookup y _) => FE9
  with_unfolding_all (replace FE9 := fr_p4 FE9 rfl)
  k_steps
  refine unhold ?_
  rename Fr _ _ _ _ => fr; rename News _ _ _ _ => nw; rename IsRange _ _ _ _ _ _ _ _ => rg; rename Src _ => sr; rename (_ < 3) => h3; rename (0 ≤ _) => h0
  with_unfolding_all refine iter_rangeUnr (n := _) (by rfl) rg (small_one (by omega) (by omega) (by omega) (by omega)) (rangeSize_nn (by omega)) fr nw ?_
  intro I l1
  have lt := l1
  have I5 : ∀ q ∈ u ++ v, q.1 ≠ I := by
    intro q hq
    refine Nat.ne_of_lt (lt q ?_)
    rw [hz0] at hq
    repeat (first | exact hq | refine List.Mem.tail _ ?_)
  have I7' : NeH src I ∧ NeH cA I ∧ NeH pA I ∧ NeH bA I ∧ NeH nA I := by
    exact ⟨Nat.ne_of_lt (lt _ (.head _)), Nat.ne_of_lt (lt _ (.tail _ (.head _))), Nat.ne_of_lt (lt _ (.tail _ (.tail _ (.head _)))), Nat.ne_of_lt (lt _ (.tail _ (.tail _ (.tail _ (.head _))))), Nat.ne_of_lt (lt _ (.tail _ (.tail _ (.tail _ (.tail _ (.head _))))))⟩
  have I7 := I7'
  refine range_loop [Str.ofString "turn", "way", "octets", "words"] _ (CodeJ src cA pA bA nA I nO u v ks ps bs per) ?turn ?fin _ 0 _ _ (Nat.zero_add _) (fun _ _ => rfl) ?start
  case start => exact ⟨_, _, _, _, [], [], [], [], by rw [List.nil_append, hz0], ⟨sr, ⟨_, _, rfl, by simpa using hc⟩, ⟨_, _, rfl, by simpa using hp⟩, ⟨_, _, rfl, by simpa using hb⟩, by simpa using hpl, by simpa using hbl⟩, .nil, (by simp), (fun x hx => by cases hx), (fun x hx => by cases hx), Fresh.nil⟩
  case fin =>
    clear fr nw rg sr hs l1 lt
    intro nw u' h tk J9 F' N'
    dsimp only
    refine hide fun G9 hG9 => ?_
    obtain ⟨sO, cO, pO, bO, seg, ps', bs', new, rfl, D, hseg, hsl, hps, hbs, hfr⟩ := J9
    refine hG9 ?_
    clear hG9
    k_steps
    refine hret _ _ _ _ _ _ seg ps' bs' new (by assumption) (by assumption) D hseg ?_ hps hbs (hfr.sub (fun a ha => .tail _ ha) fun q hq => hq)
    exact Nat.le_trans hsl (Nat.mul_le_mul_right _ (by omega))
  case turn =>
    clear fr nw rg sr hs l1 lt
    intro i nw u' t h tk hi J9 F' N'
    refine hide fun G9 hG9 => ?_
    obtain ⟨sO, cO, pO, bO, seg, ps', bs', new, rfl, ⟨hs, ⟨cv, c_n, rfl, hc⟩, ⟨pv, pn, rfl, hp⟩, ⟨bv, bn, rfl, hb⟩, hpl, hbl⟩, hseg, hsl, hps, hbs, hfr⟩ := J9
    dsimp only [five] at N'
    obtain ⟨b1, b2, b3, b4, b5⟩ := I7
    have J1 : ∀ p ∈ u ++ (new ++ v), p.1 ≠ src := off_new o1' hfr (.tail _ (.head _))
    have J2 : ∀ p ∈ u ++ (new ++ v), p.1 ≠ cA := off_new o2' hfr (.tail _ (.tail _ (.head _)))
    have J3 : ∀ p ∈ u ++ (new ++ v), p.1 ≠ pA := off_new o3' hfr (.tail _ (.tail _ (.tail _ (.head _))))
    have J4 : ∀ p ∈ u ++ (new ++ v), p.1 ≠ bA := off_new o4' hfr (.tail _ (.tail _ (.tail _ (.tail _ (.head _)))))
    have J5 : ∀ p ∈ u ++ (new ++ v), p.1 ≠ I := off_new I5 hfr (.head _)
    have k1 := hc.length
    have k2 := hp.len
    have k3 := hb.len
    have k4 : i * per ≤ 2 * per := Nat.mul_le_mul_right _ (by omega)
    simp only [List.length_append] at k1 k2 k3 hpl hbl
    generalize hz : u ++ (new ++ v) = z at N' J1 J2 J3 J4 J5
    refine hG9 ?_
    clear hG9
    k_steps
    · exact unhold (end_plain (by assumption) (by assumption) hz (by assumption) hc hp hb hpl hbl (by assumption) hseg hsl h8 hps hbs hfr I5 I7' (by intro z h3; simp only [List.contains_cons, List.contains_nil, Bool.or_false, Bool.or_eq_false_iff, beq_eq_false_iff_ne, ne_eq] at h3; simp [h3]))
    · exact unhold (end_push (by assumption) (by assumption) (by assumption) (by assumption) (by assumption) (by assumption) (by assumption) (by omega) (by omega) hz (by assumption) hc hp hb hpl hbl hseg hsl h8 hps hbs hfr I5 I7' (by intro z h3; simp only [List.contains_cons, List.contains_nil, Bool.or_false, Bool.or_eq_false_iff, beq_eq_false_iff_ne, ne_eq] at h3; simp [h3]))
    · refine unhold ?_
      subst hz
      refine' HB (by assumption) ?B ?F ?X ?T ?hk (perm5 (by assumption)) ?D hN0 ?hd ?hu ?off ne0 ?hroom ?hret
      case B => k_asm
      case F => k_asm
      case X => k_asm
      case T => k_asm
      case hk => rfl
      case D => exact ⟨by assumption, ⟨_, _, rfl, hc⟩, ⟨_, _, rfl, hp⟩, ⟨_, _, rfl, hb⟩, by simp only [List.length_append]; exact hpl, by simp only [List.length_append]; exact hbl⟩
      case hd => ktr_room
      case hu => ktr_units
      case off => exact ⟨List.forall_mem_cons.mpr ⟨neH' b1, J1⟩, List.forall_mem_cons.mpr ⟨neH' b2, J2⟩, List.forall_mem_cons.mpr ⟨neH' b3, J3⟩, List.forall_mem_cons.mpr ⟨neH' b4, J4⟩⟩
      case hroom => simp only [List.length_append]; omega
      case hret =>
        intro h9 tk9 sO9 cO9 pO9 bO9 seg9 ps9 bs9 new9 F9 N9 D9 hseg9 hsl9 hps9 hbs9 hfr9
        k_steps
        exact unhold (end_branch (by assumption) N9 D9 hseg hseg9 hsl hsl9 hps hbs hps9 hbs9 hfr hfr9 I5 I7' (by intro z h3; simp only [List.contains_cons, List.contains_nil, Bool.or_false, Bool.or_eq_false_iff, beq_eq_false_iff_ne, ne_eq] at h3; simp [h3]))
    · exact unhold (end_plain (by assumption) (by assumption) hz (by assumption) hc hp hb hpl hbl (by assumption) hseg hsl h8 hps hbs hfr I5 I7' (by intro z h3; simp only [List.contains_cons, List.contains_nil, Bool.or_false, Bool.or_eq_false_iff, beq_eq_false_iff_ne, ne_eq] at h3; simp [h3]))
    · exact unhold (end_push (by assumption) (by assumption) (by assumption) (by assumption) (by assumption) (by assumption) (by assumption) (by omega) (by omega) hz (by assumption) hc hp hb hpl hbl hseg hsl h8 hps hbs hfr I5 I7' (by intro z h3; simp only [List.contains_cons, List.contains_nil, Bool.or_false, Bool.or_eq_false_iff, beq_eq_false_iff_ne, ne_eq] at h3; simp [h3]))
end Mine

-- T7
namespace Mine
open PySem PySem.W PySem.Spec PySem.Calls PyProof.Rows
set_option maxRecDepth 100000
set_option maxHeartbeats 0


/-- what a call that writes code leaves behind -/
def CodeOut (h₀ : Heap) (L : Addr) (h' : Heap) (src cA pA bA nA : Addr) (nO : Obj) (u v : List (Addr × Obj)) (ks : List Int) (ps : List (Int × List Int × Int)) (bs : List (Int × Option Int × Int)) (cap : Nat) : Prop :=
  ∃ sO' cO' pO' bO' seg ps' bs' new, News h₀ L h' (five src cA pA bA nA sO' cO' pO' bO' nO (u ++ (new ++ v))) ∧ Dat5 (new ++ v) sO' cO' pO' bO' (ks ++ seg) (ps ++ ps') (bs ++ bs') ∧ Seg seg ∧ seg.length ≤ cap ∧
    (∀ x ∈ ps', PushAt (ks ++ seg) x) ∧ (∀ x ∈ bs', BranchAt (ks ++ seg) x) ∧ Fresh new [src, cA, pA, bA, nA] (u ++ v)
theorem tailN {h₀ h' : Heap} {L : Addr} {x : Addr × Obj} {l : List (Addr × Obj)} (N : News h₀ L h' (x :: l)) : News h₀ L h' l := fun p hp => N p (.tail _ hp)
theorem mid_none : MidIs .none none := rfl
theorem mid_some {x : Int} {t : Tok} : MidIs (.int x t) (some x) := ⟨t, rfl⟩
theorem branch_at1 {ks seg : List Int} {b e : Int} (h : Seg seg) (hb : b = (ks.length : Int) + 1) (he : e = (ks.length : Int) + 1 + seg.length + 1) : BranchAt (ks ++ ([88] ++ seg ++ [89])) (b, none, e) :=
  .inl ⟨ks ++ [88], seg, [], by simp, h, by simp [hb, he]⟩
theorem branch_at2 {ks seg seg2 : List Int} {b m e : Int} (h : Seg seg) (h2 : Seg seg2) (hb : b = (ks.length : Int) + 1) (hm : m = (ks.length : Int) + 1 + seg.length + 1) (he : e = (ks.length : Int) + 1 + seg.length + 1 + seg2.length + 1) : BranchAt (ks ++ ([88] ++ seg ++ [27] ++ seg2 ++ [89])) (b, some m, e) :=
  .inr ⟨ks ++ [88], seg, seg2, [], by simp, h, h2, by simp [hb, hm, he]⟩
section
variable {h₀ h' : Heap} {L src cA pA bA nA : Addr} {nO o' : Obj} {u v new : List (Addr × Obj)} {ks seg : List Int} {ps ps' : List (Int × List Int × Int)} {bs bs' : List (Int × Option Int × Int)} {cap : Nat}
    {cv pv bv : List Value} {c_n pn bn : Nat}
theorem if_end {D : Addr} {mid : Option Int} {mv : Value} {b e : Int} {t t' tc : Tok} {seg' : List Int}
    (N : News h₀ L h' ((D, ({ cls := .type "tuple", data := .seq #[.int b t, mv, .int e t'] } : Obj)) :: (src, o') :: (cA, listOf (cv ++ [Value.int 89 tc]).toArray (c_n + 1)) :: (pA, listOf pv.toArray pn) :: (bA, listOf (bv.toArray.push (.ref D)) (bn + 1)) :: (nA, nO) :: (u ++ (new ++ v))))
    (l1 : AllLt D ((src, o') :: (cA, listOf (cv ++ [Value.int 89 tc]).toArray (c_n + 1)) :: (pA, listOf pv.toArray pn) :: (bA, listOf bv.toArray bn) :: (nA, nO) :: (u ++ (new ++ v)))) (hmv : MidIs mv mid)
    (hs : Src o') (hc : IntsAre cv (ks ++ seg)) (hp : PushesIn (new ++ v) pv (ps ++ ps')) (hb : BranchesIn (new ++ v) bv (bs ++ bs'))
    (hpl : ps.length + ps'.length ≤ ks.length + seg.length) (hbl : bs.length + bs'.length ≤ ks.length + seg.length)
    (hsg : seg' = seg ++ [89]) (hseg : Seg seg') (hsl : seg'.length ≤ cap) 
    (hps : ∀ x ∈ ps', PushAt (ks ++ seg) x) (hbs : ∀ x ∈ bs', BranchAt (ks ++ seg) x) (hat : BranchAt (ks ++ seg') (b, mid, e)) (hfr : Fresh new [src, cA, pA, bA, nA] (u ++ v)) :
    CodeOut h₀ L h' src cA pA bA nA nO u v ks ps bs cap := by
  subst hsg
  have lt := kst_ltOf l1
  have hfr' : Fresh ((D, ({ cls := .type "tuple", data := .seq #[.int b t, mv, .int e t'] } : Obj)) :: new) [src, cA, pA, bA, nA] (u ++ v) := by
    refine Fresh.cons ?_ ?_ hfr
    · exact List.forall_mem_cons.mpr ⟨Nat.ne_of_gt (lt _ (.head _)), List.forall_mem_cons.mpr ⟨Nat.ne_of_gt (lt _ (.tail _ (.head _))), List.forall_mem_cons.mpr ⟨Nat.ne_of_gt (lt _ (.tail _ (.tail _ (.head _)))), List.forall_mem_cons.mpr ⟨Nat.ne_of_gt (lt _ (.tail _ (.tail _ (.tail _ (.head _))))), List.forall_mem_cons.mpr ⟨Nat.ne_of_gt (lt _ (.tail _ (.tail _ (.tail _ (.tail _ (.head _)))))), fun _ h => nomatch h⟩⟩⟩⟩⟩
    · intro q hq
      refine Ne.symm (Nat.ne_of_lt (lt q ?_))
      iterate 5 refine .tail _ ?_
      show q ∈ u ++ (new ++ v)
      simp only [List.mem_append] at hq ⊢
      exact hq.elim (fun h => Or.inl h) fun h => Or.inr (Or.inr h)
  refine ⟨o', listOf (cv ++ [Value.int 89 tc]).toArray (c_n + 1), listOf pv.toArray pn, listOf (bv ++ [Value.ref D]).toArray (bn + 1), seg ++ [89], ps', bs' ++ [(b, mid, e)], _ :: new, ?_, ⟨hs, ⟨_, _, rfl, ?_⟩, ⟨_, _, rfl, hp.mono fun p hp => .tail _ hp⟩, ⟨_, _, rfl, ?_⟩, ?_, ?_⟩, hseg, hsl, ?_, ?_, hfr'⟩
  · simp only [List.push_toArray] at N
    refine List.forall_mem_cons.mpr ⟨N _ (by k_mem), List.forall_mem_cons.mpr ⟨N _ (by k_mem), List.forall_mem_cons.mpr ⟨N _ (by k_mem), List.forall_mem_cons.mpr ⟨N _ (by k_mem), List.forall_mem_cons.mpr ⟨N _ (by k_mem), fun q hq => N q ?_⟩⟩⟩⟩⟩
    rcases List.mem_append.mp hq with hq | hq
    · iterate 6 refine List.Mem.tail _ ?_
      exact List.mem_append_left _ hq
    · rcases List.mem_cons.mp hq with rfl | hq
      · exact .head _
      · iterate 6 refine List.Mem.tail _ ?_
        exact List.mem_append_right _ hq
  · rw [← List.append_assoc]; exact ints_snoc hc
  · rw [← List.append_assoc]; exact (hb.mono fun p hp => .tail _ hp).snoc (.head _) hmv
  · simp only [List.length_append, List.length_cons, List.length_nil]; omega
  · simp only [List.length_append, List.length_cons, List.length_nil]; omega
  · intro x hx; rw [← List.append_assoc]; exact (hps x hx).app
  · intro x hx
    rcases List.mem_append.mp hx with hx | hx
    · rw [← List.append_assoc]; exact (hbs x hx).app
    · rw [List.mem_singleton.mp hx]; exact hat
end

theorem branch_of_code {w : World} {d : Int} {cap room : Nat} (HC : CodeC w 128 (d - 1) cap room) (hr : 40 ≤ room) : CodeC w 135 d (2 * cap + 3) (room + 20) := by
  intro prog p loose mean mg mb dp un gd cn cs a ccd cl outer A₀ base h₀ L m s Q E src cA pA bA nA sO cO pO bO nO u v ks ps bs t B F X T hk N D hN hd hu off ne hroom hret
  have hret' : ∀ h' tk', Fr h₀ L h' m → CodeOut h₀ L h' src cA pA bA nA nO u v ks ps bs (2 * cap + 3) → Q .none { s with heap := h', toks := tk' } := by
    rintro h' tk' F ⟨_, _, _, _, _, _, _, _, N, h1, h2, h3, h4, h5, h6⟩
    exact hret _ _ _ _ _ _ _ _ _ _ F N h1 h2 h3 h4 h5 h6
  clear hret
  obtain ⟨o1, o2, o3, o4⟩ := off
  have o1' := o1
  have o2' := o2
  have o3' := o3
  have o4' := o4
  have ne0 := ne
  have hN0 := hN
  unfold NotesIs at hN
  dsimp only [five] at N
  generalize hz0 : u ++ v = z0 at N o1 o2 o3 o4
  obtain ⟨a1, a2, a3, a4, a5, a6, a7, a8, a9, a10⟩ := ne
  obtain ⟨hs, ⟨cv, c_n, rfl, hc⟩, ⟨pv, pn, rfl, hp⟩, ⟨bv, bn, rfl, hb⟩, hpl, hbl⟩ := D
  w_top off
  k_with_none
  k_with "call ref" => ((k_here; (with_reducible show wpAny _ _ (call (Value.ref 109) _) _ _ _); k_dflt (refine' c_take ?B ?F ?X ?T ?hk ?N ?U ?hs ?hd ?hu ?h1 ?h2 (fun _ _ _ _ _ _ _ _ _ _ => ?_); (case B => k_asm); (case F => k_asm); (case X => k_asm); (case T => k_asm); (case hk => first | rfl | assumption); (case N => k_asm); (case U => first | assumption | k_updF); (case hs => assumption); (case hd => ktr_room); (case hu => ktr_units); (case h1 => first | omega | (simp only [List.length_cons, List.length_nil] at *; omega)); (case h2 => first | omega | (simp only [List.length_cons, List.length_nil] at *; omega))); (try k_sweep)); (all_goals (try dsimp only)))
  k_with "call ref" => ((k_here; (with_reducible show wpAny _ _ (call (Value.ref 116) _) _ _ _); k_dflt (refine' c_one ?B ?F ?X ?T ?hk ?N ?U ?hs ?hm ?hd ?hu ?hne ?htv ?h1 ?h2 (fun _ _ _ _ _ _ _ _ _ => ?_); (case B => k_asm); (case F => k_asm); (case X => k_asm); (case T => k_asm); (case hk => first | rfl | assumption); (case N => k_asm); (case U => first | assumption | k_updF); (case hs => assumption); (case hm => k_mem); (case hd => ktr_room); (case hu => ktr_units); (case hne => k_ne); (case htv => l_ints); (case h1 => first | omega | decide | (simp only [List.length_cons, List.length_nil] at *; omega)); (case h2 => first | omega | decide | (simp only [List.length_cons, List.length_nil] at *; omega))); (try k_sweep)); (all_goals (try dsimp only)))
  k_with "subscriptTail" => (k_here; (with_reducible show wpAny _ _ (subscriptTail _ _ (Value.ref _) (Value.str _ _)) _ _ _); k_dflt (refine kda_item (knd := PySem.strKind _ _) (by k_asm) (by k_mem) (by assumption) (strKind_is _ _ _ _) (by rfl) ?_))
  k_with "call builtin:list.append" => (k_here; (with_reducible show wpAny _ _ (call (Value.builtin _) [Value.ref _, _]) _ _ _); k_dflt (refine' append_K ?k1 ?k2 ?k3 ?_ ?z; (case k1 => k_asm); (case k2 => k_asm); (case k3 => k_upd); (case z => (rw [sizeLine_eq]; simp only [List.size_toArray, Array.size_push]; omega)); k_whole); intro _ _ _; (try k_sweep))
  k_with "call ref" => (k_here; (with_reducible show wpAny _ _ (call (Value.ref 128) _) _ _ _); refine hold ?_)
  k_with "execs cons" => (k_here; dsimp only)
  k_with "execs cons" => (k_here; with_reducible refine q_tok (fun tk => ?_))
  k_with "execs cons" => (k_here; k_fold)
  refine wpAny_call ?_
  k_dflt ktr_enter
  rename Fr _ _ _ (fun y => List.lookup y _) => FE9
  with_unfolding_all (replace FE9 := fr_p4 FE9 rfl)
  k_steps
  refine unhold ?_
  subst hz0
  refine' HC ?B ?F ?X ?T ?hk (tailN (by assumption)) ?D hN0 ?hd ?hu ?off ne0 ?hroom ?hret
  case B => k_asm
  case F => k_asm
  case X => k_asm
  case T => k_asm
  case hk => rfl
  case D => exact ⟨by assumption, ⟨_, _, rfl, ints_snoc hc⟩, ⟨_, _, rfl, hp⟩, ⟨_, _, rfl, hb⟩, by simp only [List.length_append]; omega, by simp only [List.length_append]; omega⟩
  case hd => ktr_room
  case hu => ktr_units
  case off => exact ⟨o1', o2', o3', o4'⟩
  case hroom => simp only [List.length_append, List.length_cons, List.length_nil]; omega
  case hret =>
    intro h9 tk9 sO9 cO9 pO9 bO9 seg ps' bs' new F' N' D9 hseg hsl hps hbs hfr
    have J1 : ∀ p ∈ u ++ (new ++ v), p.1 ≠ src := off_new o1' hfr (.head _)
    have J2 : ∀ p ∈ u ++ (new ++ v), p.1 ≠ cA := off_new o2' hfr (.tail _ (.head _))
    have J3 : ∀ p ∈ u ++ (new ++ v), p.1 ≠ pA := off_new o3' hfr (.tail _ (.tail _ (.head _)))
    have J4 : ∀ p ∈ u ++ (new ++ v), p.1 ≠ bA := off_new o4' hfr (.tail _ (.tail _ (.tail _ (.head _))))
    refine hide fun G9 hG9 => ?_
    obtain ⟨hs9, ⟨cv9, cn9, rfl, hc9⟩, ⟨pv9, pn9, rfl, hp9⟩, ⟨bv9, bn9, rfl, hb9⟩, hpl9, hbl9⟩ := D9
    have k1 := hc9.length
    have k2 := hp9.len
    have k3 := hb9.len
    simp only [List.length_append, List.length_cons, List.length_nil] at k1 k2 k3 hpl9 hbl9
    dsimp only [five] at N'
    generalize hz : u ++ (new ++ v) = z at N' J1 J2 J3 J4
    refine hG9 ?_
    clear hG9
    k_steps
    · refine unhold ?_
      subst hz
      refine' HC ?B ?F ?X ?T ?hk (by assumption) ?D hN0 ?hd ?hu ?off ne0 ?hroom ?hret
      case B => k_asm
      case F => k_asm
      case X => k_asm
      case T => k_asm
      case hk => rfl
      case D => exact ⟨by assumption, ⟨_, _, rfl, ints_snoc hc9⟩, ⟨_, _, rfl, hp9⟩, ⟨_, _, rfl, hb9⟩, by simp only [List.length_append, List.length_cons, List.length_nil]; omega, by simp only [List.length_append, List.length_cons, List.length_nil]; omega⟩
      case hd => ktr_room
      case hu => ktr_units
      case off => exact ⟨J1, J2, J3, J4⟩
      case hroom => simp only [List.length_append, List.length_cons, List.length_nil]; omega
      case hret =>
        intro h8 tk8 sO8 cO8 pO8 bO8 seg8 ps8 bs8 new8 F' N' D8 hseg8 hsl8 hps8 hbs8 hfr8
        have J1 : ∀ p ∈ u ++ (new8 ++ (new ++ v)), p.1 ≠ src := off_new J1 hfr8 (.head _)
        have J2 : ∀ p ∈ u ++ (new8 ++ (new ++ v)), p.1 ≠ cA := off_new J2 hfr8 (.tail _ (.head _))
        have J3 : ∀ p ∈ u ++ (new8 ++ (new ++ v)), p.1 ≠ pA := off_new J3 hfr8 (.tail _ (.tail _ (.head _)))
        have J4 : ∀ p ∈ u ++ (new8 ++ (new ++ v)), p.1 ≠ bA := off_new J4 hfr8 (.tail _ (.tail _ (.tail _ (.head _))))
        refine hide fun G9 hG9 => ?_
        obtain ⟨hs8, ⟨cv8, cn8, rfl, hc8⟩, ⟨pv8, pn8, rfl, hp8⟩, ⟨bv8, bn8, rfl, hb8⟩, hpl8, hbl8⟩ := D8
        have k1 := hc8.length
        have k2 := hp8.len
        have k3 := hb8.len
        simp only [List.length_append, List.length_cons, List.length_nil] at k1 k2 k3 hpl8 hbl8
        dsimp only [five] at N'
        rw [← List.append_assoc new8] at N' J1 J2 J3 J4 hp8 hb8
        generalize hz : u ++ (new8 ++ new ++ v) = z at N' J1 J2 J3 J4
        refine hG9 ?_
        clear hG9
        k_steps
        subst hz
        rw [List.append_assoc ps] at hp8
        rw [List.append_assoc bs] at hb8
        refine hret' _ _ (by assumption) (if_end (seg := [88] ++ seg ++ [27] ++ seg8) (by assumption) (by assumption) mid_some (by assumption) (by simpa only [List.append_assoc] using hc8) hp8 hb8 ?_ ?_ rfl ?_ ?_ ?_ ?_ (branch_at2 hseg hseg8 (by omega) (by omega) (by omega)) ?_)
        · simp only [List.length_append, List.length_cons, List.length_nil]; omega
        · simp only [List.length_append, List.length_cons, List.length_nil]; omega
        · simpa using Seg.if2 hseg hseg8 .nil
        · simp only [List.length_append, List.length_cons, List.length_nil]; omega
        · intro x hx
          rcases List.mem_append.mp hx with hx | hx
          · have q := (hps x hx).app (t := [27] ++ seg8)
            simpa only [List.append_assoc] using q
          · simpa only [List.append_assoc] using hps8 x hx
        · intro x hx
          rcases List.mem_append.mp hx with hx | hx
          · have q := (hbs x hx).app (t := [27] ++ seg8)
            simpa only [List.append_assoc] using q
          · simpa only [List.append_assoc] using hbs8 x hx
        · exact (hfr8.sub (fun a ha => ha) fun q hq => (List.mem_append.mp hq).elim (fun h => List.mem_append_left _ h) fun h => List.mem_append_right _ (List.mem_append_right _ h)).app hfr
    · subst hz
      rw [List.append_assoc ks] at hc9 hps hbs
      refine hret' _ _ (by assumption) (if_end (seg := [88] ++ seg) (by assumption) (by assumption) mid_none (by assumption) hc9 hp9 hb9 ?_ ?_ rfl ?_ ?_ hps hbs (branch_at1 hseg (by omega) (by omega)) hfr)
      · simp only [List.length_append, List.length_cons, List.length_nil]; omega
      · simp only [List.length_append, List.length_cons, List.length_nil]; omega
      · simpa using Seg.if1 hseg .nil
      · simp only [List.length_append, List.length_cons, List.length_nil]; omega
end Mine

-- T8
namespace Mine
open PySem PySem.W PySem.Spec PySem.Calls PyProof.Rows
set_option maxRecDepth 100000
set_option maxHeartbeats 0

theorem pool_src {m z : Int} {t1 t2 : Tok} : Src (listOf #[.int (m * if decide ((10 : Int) ^ Int.toNat 18 ≤ m) = true then 1 else 0) t1, .int (z.fmod 2147483647) t2] 0) := by
  have h := @fm_in z 2147483647 (by omega)
  refine ⟨_, _, [.int _ _, .int _ _], 0, rfl, .cons _ _ (.cons _ _ .nil), ?_, h.1, h.2⟩
  split
  · rename_i q
    have e : (10 : Int) ^ Int.toNat 18 = 1000000000000000000 := by decide
    rw [decide_eq_true_eq, e] at q
    omega
  · omega
theorem kk_in {k : Int} (h0 : 0 ≤ k) (h2 : k < 2) : 0 ≤ 7919 * k * k ∧ 7919 * k * k ≤ 7919 := by
  have : k = 0 ∨ k = 1 := by omega
  rcases this with rfl | rfl <;> decide
theorem fr_over {g h : Heap} {L : Addr} {n : Str} {a b : Option Value} {r : Str → Option Value} (F : Fr g L h (fun y => if y = n then a else if y = n then b else r y)) : Fr g L h (fun y => if y = n then a else r y) := by
  have q : (fun y => if y = n then a else if y = n then b else r y) = fun y => if y = n then a else r y := by
    funext y; by_cases e : y = n
    · rw [if_pos e, if_pos e]
    · rw [if_neg e, if_neg e, if_neg e]
  exact q ▸ F
theorem cutCell {M : Model} {A : Around} {env : Env} {st1 st2 : Stmt} {rest : List Stmt} {Q : Flow → Shared → Prop} {E : Value → Shared → Prop} {s : Shared} {h₀ : Heap} {L : Addr} {m : Str → Option Value} {news : List (Addr × Obj)} {n : Str}
    (_F : Fr h₀ L s.heap m) (_N : News h₀ L s.heap news)
    (ht : ∀ h' tk' c tc, Fr h₀ L h' (fun y => if y = n then some (.int c tc) else m y) → News h₀ L h' news → wpAny M A (execs rest env) Q E { s with heap := h', toks := tk' })
    (h : ∀ P : Shared → Prop, (∀ h' tk' c tc, Fr h₀ L h' (fun y => if y = n then some (.int c tc) else m y) → News h₀ L h' news → P { s with heap := h', toks := tk' }) →
       wpAny M A (exec st1 env) (fun f s' => match f with | .next => wpAny M A (exec st2 env) (fun f s' => match f with | .next => P s' | f => Q f s') E s' | f => Q f s') E s) :
    wpAny M A (execs (st1 :: st2 :: rest) env) Q E s :=
  wpAny_execs_cons (wpAny_mono (h (fun s' => wpAny M A (execs rest env) Q E s') ht) (fun f s' q => by cases f <;> first | exact wpAny_execs_cons q | exact q) fun _ _ e => e)
theorem liftL {h₀ g : Heap} {L sc : Addr} {m : Str → Option Value} {xs : Array Value} (FG : Fr h₀ L g m) (hL : h₀.IsList sc xs) : g.IsList sc xs := let ⟨o, ho, r⟩ := hL; ⟨o, FG.keep _ _ ho, r⟩
section
variable {prog : Program} {w : World} {p : Program} {loose : List Str} {mean : ExcName → Option Value} {mg mb : Str → Option Value}
    {dp un : Nat} {gd : Option (List Code)} {cn : Str} {cs : Scope} {a : Addr} {ccd : Value} {cl : List (Str × Addr)} {outer : List Env} {A₀ : Around} {base h₀ : Heap} {L : Addr} {m : Str → Option Value} {news : List (Addr × Obj)} {s : Shared}
    {Q E : Value → Shared → Prop} 
variable (B : Below A₀ base outer h₀) (F : Fr h₀ L s.heap m) (X : (Mine.hd.heap_39 w.params).In h₀) (T : Top p loose mean mg mb h₀) (hk : cs.kind = .function)
include B F X T hk


theorem c_pool {sc : Addr} {xs : List Value} {ws : List Int} {k : Int} {t : Tok} (N : News h₀ L s.heap news) (hL : h₀.IsList sc xs.toArray) (hI : IntsAre xs ws) (hlay : PyData.layable0 (.list (ws.map .int)) = true) (hlen : ¬ (63 : Int) < ws.length) (hd : dp + 14 < recursionLimit) (hu : un + 120 < cLine)
    (h0 : 0 ≤ k) (h2 : k < 2)
    (hret : ∀ h' tk' r o, Src o → Fr h₀ L h' m → News h₀ L h' ((r, o) :: news) → AllLt r news → Q (.ref r) { s with heap := h', toks := tk' }) :
    wpAny (model prog w) (ktrTop dp un gd cn cs L a ccd cl outer) (call (.ref 102) [.ref sc, .int k t]) Q E s := by
  have hk1 : 0 ≤ 7919 * k * k ∧ 7919 * k * k ≤ 7919 := kk_in h0 h2
  w_top off
  k_with_none
  k_with "execs cons" => (k_here; dsimp only)
  k_with "execs cons" => (k_here; with_reducible refine q_tok (fun tk => ?_))
  k_with "execs cons" => (k_here; k_fold)
  refine wpAny_call ?_
  k_dflt ktr_enter
  rename Fr _ _ _ (fun y => List.lookup y _) => FE9
  with_unfolding_all (replace FE9 := fr_p2 FE9 rfl)
  rename Fr h₀ L _ m => FG
  have hL' := liftL FG hL
  rename News _ _ _ _ => NE9
  refine cutCell (n := Str.ofString "cell") FE9 NE9 ?tail ?head
  case head =>
    intro P hP
    k_steps
    all_goals first | exact hP _ _ _ _ (by assumption) (by assumption) | exact hP _ _ _ _ (fr_over (by assumption)) (by assumption)
  case tail =>
    clear FE9 NE9
    intro h5 tk5 c5 t5 F5 N5
    k_steps
    exact hret _ _ _ _ pool_src (by assumption) (by assumption) (allLt_of (by assumption))

end
end Mine

-- T9
namespace Mine
open PySem PySem.W PySem.Spec PySem.Calls PyProof.Rows
set_option maxRecDepth 100000
set_option maxHeartbeats 0

/-- the table of a def's lambdas: each that stands in it lies in the ledger -/
def TabOk (qual : Str) (ps : Array Value) (z : List (Addr × Obj)) : Prop :=
  TriplesOk ps.toList ∧ ∀ pos v, codeAmong pos ps.toList = some v → ∃ c' oc vs t, v = .ref c' ∧ (c', oc) ∈ z ∧ oc.data = .fields vs ∧ vs[1]? = some (.str qual t)
theorem TabOk.nil {qual : Str} : TabOk qual #[] [] := ⟨trivial, fun _ _ h => nomatch h⟩
theorem TabOk.mono {qual : Str} {ps : Array Value} {z z' : List (Addr × Obj)} (h : TabOk qual ps z) (hz : ∀ p ∈ z, p ∈ z') : TabOk qual ps z' :=
  ⟨h.1, fun pos v e => let ⟨c', oc, vs, t, e1, e2, e3⟩ := h.2 pos v e; ⟨c', oc, vs, t, e1, hz _ e2, e3⟩⟩
theorem among_snoc {pos : Pos} {a b : Int} {c v : Value} (l : List Value) (h : TriplesOk l) (e : codeAmong pos (l ++ [rawInt a, rawInt b, c]) = some v) : codeAmong pos l = some v ∨ v = c := by
  fun_induction TriplesOk l with
  | case1 =>
    simp only [List.nil_append, codeAmong, rawInt] at e
    split at e
    · cases e; exact .inr rfl
    · cases e
  | case2 a' t b' u x rest ih =>
    simp only [List.cons_append, codeAmong] at e ⊢
    split at e
    · rename_i q; rw [if_pos q]; exact .inl e
    · rename_i q; rw [if_neg q]; exact ih h e
  | case3 l h1 h2 => exact h.elim
theorem TabOk.snoc {qual : Str} {ps : Array Value} {z : List (Addr × Obj)} {a b : Int} {c' : Addr} {oc : Obj} {vs : Array Value} {t : Tok} (h : TabOk qual ps z) (hd : oc.data = .fields vs) (hv : vs[1]? = some (.str qual t)) :
    TabOk qual (ps ++ #[rawInt a, rawInt b, .ref c']) ((c', oc) :: z) := by
  have e : (ps ++ #[rawInt a, rawInt b, Value.ref c']).toList = ps.toList ++ [rawInt a, rawInt b, .ref c'] := by simp
  refine ⟨by rw [e]; exact TriplesOk_snoc _ _ _ _ h.1, fun pos v q => ?_⟩
  rw [e] at q
  rcases among_snoc _ h.1 q with q | rfl
  · obtain ⟨c₂, oc₂, vs₂, t₂, e1, e2, e3⟩ := h.2 pos v q
    exact ⟨c₂, oc₂, vs₂, t₂, e1, .tail _ e2, e3⟩
  · exact ⟨c', oc, vs, t, rfl, .head _, hd, hv⟩
section
variable {M : Model} {A : Around} {E : Value → Shared → Prop} {s : Shared} {h₀ : Heap} {L a c P : Addr} {m mg mb : Str → Option Value} {cn : Str} {cs : Scope} {ccd : Value} {cl : List (Str × Addr)} {news z : List (Addr × Obj)} {g : Obj → List (Addr × Obj)}
  {p : Program} {loose : List Str} {mean : ExcName → Option Value} {name qual : Str} {params : Arguments} {body : Expr} {scope : Scope} {ps : Array Value} {pos : Pos} {firstLine : Nat} {clos : List (Str × Addr)}
/-- a lambda is made: its code is new in the table or stands there -/
theorem lam_any {Q : Value → Shared → Prop} (F : Fr h₀ L s.heap m) (N : News h₀ L s.heap news) (T : Top p loose mean mg mb h₀) (C : CodeHd h₀ c P) (hcd : ccd = .ref c) (U : UpdF P (tabObj ps) news g) (K : TabOk qual ps z) (hz : ∀ q ∈ z, q ∈ news)
    (hcl : closureFor scope (envX cn cs L a ccd cl) = pure clos)
    (h : ∀ f c' oc vs t ctv ps' h' tk, Fr h₀ L h' m →
      News h₀ L h' ((f, kla_obj name qual params body scope clos ((mg "__name__").getD .none) c' ctv) :: (c', oc) :: g (tabObj ps')) →
      oc.data = .fields vs → vs[1]? = some (.str qual t) → TabOk qual ps' ((c', oc) :: z) → ((c', oc) ∈ z ∨ ∀ q ∈ news, q.1 < c') → (∀ q ∈ news, q.1 < f) → Q (.ref f) { s with heap := h', toks := tk }) :
    wpAny M A (makeFunction name qual params (.expr body) scope (envX cn cs L a ccd cl) [] [] [] pos firstLine) Q E s := by
  cases hq : codeAmong pos ps.toList with
  | none =>
    refine kla_nest F N T C hcd U K.1 hq hcl fun f c' oc vs t ctv h' tk F' N' hd hv l1 l2 => ?_
    exact h f c' oc vs t ctv _ h' tk F' N' hd hv (K.snoc hd hv) (.inr l1) fun q hm => Nat.lt_trans (l1 q hm) l2
  | some v =>
    obtain ⟨c', oc, vs, t, rfl, hm, hd, hv⟩ := K.2 pos v hq
    obtain ⟨own, rest, rfl, hgr, h1, h2⟩ := U.split
    refine kla_hit F N T C hcd (List.mem_append_right _ (.head _)) K.1 hq hcl fun f ctv h' tk F' N' l1 => ?_
    refine h f c' oc vs t ctv ps h' tk F' (fun q hq => ?_) hd hv (K.mono fun _ h => .tail _ h) (.inl hm) l1
    rw [hgr] at hq
    rcases List.mem_cons.mp hq with rfl | hq
    · exact N' _ (.head _)
    · rcases List.mem_cons.mp hq with rfl | hq
      · exact N' _ (.tail _ (hz _ hm))
      · exact N' _ (.tail _ hq)
end
section
variable {prog : Program} {w : World} {A : Around} {E : Value → Shared → Prop} {s : Shared} {env : Env} {h₀ : Heap} {target : Expr} {body : List Stmt} {Q : Flow → Shared → Prop}
end
end Mine

-- T11
namespace Mine
open PySem PySem.W PySem.Spec PySem.Calls PyProof.Rows
set_option maxRecDepth 100000
set_option maxHeartbeats 0

/-- what the caller has of its own frame after a call within which a fault was caught: the frames' dicts bear new slots -/
def Back (A₀ : Around) (base h₀ : Heap) (outer : List Env) (env : Env) (L : Addr) (m : Str → Option Value) (g : Heap) : Prop :=
  ∀ (h' g' : Heap) (L'' : Addr) (m' : Str → Option Value) (news' : List (Addr × Obj)), KtsTurn ((env :: outer).filterMap (·.frame)) g g' → Fr g' L'' h' m' → News g' L'' h' news' →
    ∃ h₀', KtsTurn (outer.filterMap (·.frame)) h₀ h₀' ∧ Fr h₀' L h' m ∧ News h₀' L h' news' ∧ Below A₀ base outer h₀' ∧ KtsDicts (outer.filterMap (·.frame)) h₀'
section
variable {prog : Program} {w : World} {A₀ A : Around} {s : Shared} {base h₀ : Heap} {outer : List Env} {L : Addr} {m : Str → Option Value} {env : Env} {news : List (Addr × Obj)} {K : Frag} {p : Program} {loose : List Str} {mean : ExcName → Option Value} {mg mb : Str → Option Value}
  {R : Result → Shared → Prop} {name qual : Str} {params : Arguments} {body : List Stmt} {scope : Scope} {dV kV doc pm cdv ct oc : Value} {an od : Option Addr} {osl : Array (Option Value)} {f : Addr} {args : Args} {binds : List (Str × Value)}
theorem groundS (B : Below A₀ base outer h₀) (F : Fr h₀ L s.heap m) (N : News h₀ L s.heap news) (D : KtsDicts (outer.filterMap (·.frame)) h₀) (hA : A.frames = some (env :: outer)) (hf : env.frame = some L) (hke : env.scope.kind = .function) :
    Fr h₀ L (hideAll s.heap (news.map (·.1))) m ∧ Below A base (env :: outer) (hideAll s.heap (news.map (·.1))) ∧ h₀.StaysIn (hideAll s.heap (news.map (·.1))) ∧ KtsDicts ((env :: outer).filterMap (·.frame)) (hideAll s.heap (news.map (·.1))) ∧ Back A₀ base h₀ outer env L m (hideAll s.heap (news.map (·.1))) := by
  obtain ⟨FG, BG, st, _⟩ := groundX (R := fun _ _ => True) B F N hA hf hke
  obtain ⟨oL, es, ep, hLg, hLd, hLk, hLf⟩ := FG.ns
  have nL : h₀.get? L = none := kts_self F
  refine ⟨FG, BG, st, fun b hb => ?_, fun h' g' L'' m' news' T' F' N' => ?_⟩
  · rcases kts_memG hf hb with rfl | hb
    · exact ⟨oL, es, ep, hLg, hLd⟩
    · obtain ⟨o, es', n', ho, hd⟩ := D b hb
      exact ⟨o, es', n', st b o ho, hd⟩
  obtain ⟨sl, hs⟩ := T'.up hLg
  obtain ⟨T₁, S₁⟩ := kts_turn_at (h := h') (fs := outer.filterMap (·.frame)) (g := h₀)
    (fun b hb => let ⟨_, o, ho, _⟩ := B.frames.mem hb; ⟨o, ho⟩)
    (fun b o e hn => F'.keep b o (T'.other b o (st b o e) fun q => (kts_memG hf q).elim (fun z => by rw [z, nL] at e; cases e) hn))
    (fun b o e _ => let ⟨sl', h1⟩ := T'.up (st b o e); ⟨sl', F'.keep _ _ h1⟩)
  refine ⟨_, T₁, ⟨⟨_, es, ep, F'.keep _ _ hs, hLd, hLk, hLf⟩, S₁, by rw [T₁.size]; exact F.above⟩, fun q hq => ⟨(N' q hq).1, fun z => ?_, T₁.none_ _ ?_⟩, ⟨B.stack, fun b o e => T₁.other b o (B.stays b o e) fun hm => ?_, B.frames.of_keeps fun b o e _ => ?_⟩, D.turn T₁⟩
  · have := (N' q hq).2.2; rw [z, hs] at this; cases this
  · cases z : h₀.get? q.1 with
    | none => rfl
    | some o =>
      obtain ⟨sl', h1⟩ := T'.up (st _ _ z)
      have := (N' q hq).2.2
      rw [h1] at this; cases this
  · rw [(B.frames.mem hm).1] at e; cases e
  · obtain ⟨sl', h1⟩ := T₁.up e
    exact ⟨_, h1, rfl⟩
/-- entering a def within which a fault is caught -/
theorem enterS (B : Below A₀ base outer h₀) (F : Fr h₀ L s.heap m) (X₀ : K.In h₀) (N : News h₀ L s.heap news) (T : Top p loose mean mg mb h₀) (D : KtsDicts (outer.filterMap (·.frame)) h₀) (hA : A.frames = some (env :: outer)) (hf : env.frame = some L) (hke : env.scope.kind = .function)
    (ho : K.lookup f = some ⟨oc, od, .func (fnOf name qual params body scope dV kV doc pm an cdv ct), osl⟩) (hcd : codeIn K cdv qual = true) (hroom : A.depth < recursionLimit)
    (hbind : BindsTo s (fnOf name qual params body scope dV kV doc pm an cdv ct) args binds) (hloc : ∀ y ∈ binds, scope.names.lookup y.1 = some .local)
    (h : ∀ g L' h₁, Fr h₀ L g m → Fr g L' h₁ (fun y => binds.reverse.lookup y) → News g L' h₁ news → Below A base (env :: outer) g → K.In g → Top p loose mean mg mb g → KtsDicts ((env :: outer).filterMap (·.frame)) g → Back A₀ base h₀ outer env L m g →
      wpAny (model prog w) (A.deeper (envOf qual scope L' f cdv)) (execs body (envOf qual scope L' f cdv))
        (fun fl s' => R (.ok (.ret (match fl with | .ret v => v | _ => .none))) s')
        (fun e s' => wpAny (model prog w) (A.deeper (envOf qual scope L' f cdv)) (leaving (envOf qual scope L' f cdv) e) (fun _ s'' => R (.error e) s'') (fun e' s'' => R (.error e') s'') s')
        { s with heap := h₁, toks := s.toks + binds.length })
    (hco : scope.isCoroutine = false) (hgen : scope.isGenerator = false) (hk : scope.kind = .function)
    (hcell : ∀ x ∈ scope.names, x.2 ≠ .cell) : codeAny (model prog w) A (.call (.ref f) args) R s := by
  have X := X₀.keeps F.keep
  obtain ⟨FG, BG, st, DG, bk⟩ := groundS B F N D hA hf hke
  refine codeAny_call_def (fd := fnOf name qual params body scope dV kV doc pm an cdv ct) (body := body) (binds := binds) hroom (X _ _ ho) rfl (T.nolimit.keeps F.keep) (codeRec_of X hcd) rfl hbind hcell hloc (fun h₁ hns hk₁ => ?_) hco hgen hk
  exact h _ s.heap.objs.size h₁ FG ⟨hns, fun b o e => hk₁ b o (of_hideAll _ e), Nat.le_of_eq (hideAll_size _ _)⟩
    (fun q hq => ⟨hk₁ _ _ (N q hq).1, Nat.ne_of_lt (Heap.lt_size (N q hq).1), hideAll_none _ (List.mem_map_of_mem hq)⟩) BG (X₀.keeps st) (T.keeps st) DG bk
/-- the same for a def with cells -/
theorem enterSC (B : Below A₀ base outer h₀) (F : Fr h₀ L s.heap m) (X₀ : K.In h₀) (N : News h₀ L s.heap news) (T : Top p loose mean mg mb h₀) (D : KtsDicts (outer.filterMap (·.frame)) h₀) (hA : A.frames = some (env :: outer)) (hf : env.frame = some L) (hke : env.scope.kind = .function)
    (ho : K.lookup f = some ⟨oc, od, .func (fnOf name qual params body scope dV kV doc pm an cdv ct), osl⟩) (hcd : codeIn K cdv qual = true) (hroom : A.depth < recursionLimit)
    (hbind : BindsTo s (fnOf name qual params body scope dV kV doc pm an cdv ct) args binds) (hkind : (binds.all fun y => scope.names.lookup y.1 == some .local || scope.names.lookup y.1 == some .cell) = true)
    (hnd : ((cellsFrom 0 scope.names []).map (·.1)).Nodup)
    (h : ∀ g L' h₁ tk cells, Fr h₀ L g m → Fr g L' h₁ (bindL (envOfC qual scope L' f cdv).kindOf binds fun _ => none) → News g L' h₁ (cells ++ news) →
      CellsAre (bindC (envOfC qual scope L' f cdv).kindOf binds fun _ => none) (cellsFrom (L' + 1) scope.names []) cells → Below A base (env :: outer) g → K.In g → Top p loose mean mg mb g → (∀ q ∈ news, q.1 < L') →
      KtsDicts ((env :: outer).filterMap (·.frame)) g → Back A₀ base h₀ outer env L m g →
      wpAny (model prog w) (A.deeper (envOfC qual scope L' f cdv)) (execs body (envOfC qual scope L' f cdv))
        (fun fl s' => R (.ok (.ret (match fl with | .ret v => v | _ => .none))) s')
        (fun e s' => wpAny (model prog w) (A.deeper (envOfC qual scope L' f cdv)) (leaving (envOfC qual scope L' f cdv) e) (fun _ s'' => R (.error e) s'') (fun e' s'' => R (.error e') s'') s')
        { s with heap := h₁, toks := tk })
    (hco : scope.isCoroutine = false) (hgen : scope.isGenerator = false) (hk : scope.kind = .function) : codeAny (model prog w) A (.call (.ref f) args) R s := by
  have X := X₀.keeps F.keep
  obtain ⟨FG, BG, st, DG, bk⟩ := groundS B F N D hA hf hke
  refine codeAny_call_function (X _ _ ho) rfl hco hgen rfl (codeRec_of X hcd) (hbind _ _ _ _ ?_) (hroom := hroom)
  refine wpAny_newFunctionEnv_cells hk (kindsX hkind _) fun env' he s' x => ?_
  subst he
  refine ⟨(T.nolimit.keeps F.keep).keeps x.toInCall.keep, codeAny_func ?_⟩
  obtain ⟨h₁, tk, rfl, _⟩ := x.done
  have hk₁ := x.toInCall.keep
  obtain ⟨cells, NC, Y⟩ := Cl.news (h₀ := s.heap) (Nat.le_refl _) fun n c hm => ⟨x.cell n c (lookup_of_mem_nodup (cellsFrom_names scope.names 0 (s.heap.objs.size + 1) [] [] rfl ▸ hnd) hm), x.above n c hm⟩
  refine h _ s.heap.objs.size h₁ tk cells FG ⟨x.toInCall.ns, fun b o e => hk₁ b o (of_hideAll _ e), Nat.le_of_eq (hideAll_size _ _)⟩ (fun q hq => ?_) Y BG (X₀.keeps st) (T.keeps st) (fun q hq => Heap.lt_size (N q hq).1) DG bk
  rcases List.mem_append.mp hq with hq | hq
  · refine ⟨(NC q hq).1, (NC q hq).2.1, ?_⟩
    cases z : (hideAll s.heap (news.map (·.1))).get? q.1 with
    | none => rfl
    | some o => have := of_hideAll _ z; rw [(NC q hq).2.2] at this; cases this
  · exact ⟨hk₁ _ _ (N q hq).1, Nat.ne_of_lt (Heap.lt_size (N q hq).1), hideAll_none _ (List.mem_map_of_mem hq)⟩
end
end Mine

-- T12
namespace Mine
open PySem PySem.W PySem.Spec PySem.Calls PyProof.Rows
set_option maxRecDepth 100000
set_option maxHeartbeats 0


section
variable {prog : Program} {w : World} {p : Program} {loose : List Str} {mean : ExcName → Option Value} {mg mb : Str → Option Value}
    {dp un : Nat} {gd : Option (List Code)} {cn : Str} {cs : Scope} {a : Addr} {ccd : Value} {cl : List (Str × Addr)} {outer : List Env} {A₀ : Around} {base h₀ : Heap} {L : Addr} {m : Str → Option Value} {news : List (Addr × Obj)} {s : Shared}
    {Q E : Value → Shared → Prop} 
variable (B : Below A₀ base outer h₀) (F : Fr h₀ L s.heap m) (X : (Mine.hd.heap_39 w.params).In h₀) (T : Top p loose mean mg mb h₀) (hk : cs.kind = .function)
include B F X T hk

theorem c_answer {f : Addr} {oc : Value} {od : Option Addr} {fd : FuncData} {sl : Array (Option Value)} (N : News h₀ L s.heap news) (hm : (f, (⟨oc, od, .func fd, sl⟩ : Obj)) ∈ news) (XB : (Mine.hd.heap_39 w.params).In base) (TB : Top p loose mean mg mb base) (D : KtsDicts (outer.filterMap (·.frame)) h₀) (hd : dp + 40 < recursionLimit) (hu : un + 400 < cLine)
    (hcall : ∀ env₁ g L' m' h' tk' (Q' E' : Value → Shared → Prop), env₁.frame = some L' → env₁.scope.kind = .function → Below (ktrTop dp un gd cn cs L a ccd cl outer) base (envX cn cs L a ccd cl :: outer) g → Fr g L' h' m' → (Mine.hd.heap_39 w.params).In g → Top p loose mean mg mb g → News g L' h' news →
      Refuses base env₁ (envX cn cs L a ccd cl :: outer) g L' m' news E' { s with heap := h', toks := tk' } → wpAny (model prog w) ((ktrTop dp un gd cn cs L a ccd cl outer).deeper env₁) (call (.ref f) []) Q' E' { s with heap := h', toks := tk' })
    (hret : ∀ h₀' h' tk' t, KtsTurn (outer.filterMap (·.frame)) h₀ h₀' → Fr h₀' L h' m → News h₀' L h' news → Below A₀ base outer h₀' → (Mine.hd.heap_39 w.params).In h₀' → Top p loose mean mg mb h₀' → KtsDicts (outer.filterMap (·.frame)) h₀' → Q (.str (Str.ofString "refused") t) { s with heap := h', toks := tk' }) :
    wpAny (model prog w) (ktrTop dp un gd cn cs L a ccd cl outer) (call (.ref 142) [.ref f]) Q E s := by
  w_top off
  k_with_none
  k_with "execs cons" => (k_here; dsimp only)
  k_with "execs cons" => (k_here; with_reducible refine q_tok (fun tk => ?_))
  k_with "execs cons" => (k_here; (with_reducible show wpAny _ _ _ _ _ _); k_fold)
  refine wpAny_call ?_
  k_dflt (refine' enterS ?k1 ?k2 ?k3 ?k4 ?k5 ?kQ ?kA ?kF ?kK ?k6 ?k7 ?k8 ?k9 ?kB ?_ ?c2 ?c3 ?c4 ?c5; (case kA => exact rfl); (case kF => exact rfl); (case kK => assumption); (case k1 => k_asm); (case k2 => k_asm); (case k3 => k_asm); (case k4 => k_asm); (case k5 => k_asm); (case kQ => assumption); (case k6 => k_is); (case k7 => k_is); (case k8 => ktr_room); (case k9 => exact BindsTo.of_eq rfl); (case c5 => decide); (case kB => exact locs rfl); (case c2 => exact rfl); (case c3 => exact rfl); (case c4 => exact rfl); k_whole)
  intro g' L' h' FG' F' N' B' X' T' D' bk
  (try dsimp only)
  (try k_fold)
  k_steps
  refine callWith_F0 (FnAt.of (by assumption) hm) ?_
  refine hcall _ _ _ _ _ _ _ _ rfl rfl B' (by assumption) X' T' (by assumption) ?_
  intro e g2 h2 tk2 F2 U2 R2
  dsimp only
  refine kts_lookSN R2 F2 B' U2 D' fun h3 R3 U3 => ?_
  refine hit_SN0 R3 F2 B' U3 XB TB D' KtsTurn.refl (test_name (K := Mine.hd.heap_39 w.params) (c := .ref 44) ?n1 ?n2 rfl rfl rfl) (fun h4 g4 T4 F4 N4 B4 X4 P4 D4 => ?_)
  case n1 => exact .inl (by k_is)
  case n2 => kts_exm
  k_steps
  obtain ⟨h₀', T₁, F₁, N₁, B₁, D₁⟩ := bk _ _ _ _ _ T4 F4 N4
  exact hret h₀' _ _ _ T₁ F₁ N₁ B₁ (XB.keeps B₁.stays) (TB.keeps B₁.stays) D₁
end
end Mine

-- T13
namespace Mine
open PySem PySem.W PySem.Spec PySem.Calls PyProof.Rows
set_option maxRecDepth 100000
set_option maxHeartbeats 0

section
variable {prog : Program} {w : World} {A : Around} {E : Value → Shared → Prop} {s : Shared} {env : Env} {target : Expr} {body : List Stmt} {Q : Flow → Shared → Prop}
/-- a for over a list, told by its states alone: the ground may change from turn to turn -/
theorem list_states {ax : Addr} {items : Array Value} (hh : A.handled = none) (hl : s.heap.IsList ax items) (Inv : Addr → Shared → Prop)
    (h0 : Inv s.heap.objs.size { s with heap := s.heap.push { cls := .type "list_iterator", data := .fields #[.ref ax, .int 0 0] } })
    (keepI : ∀ I s₁ h' tk, Inv I s₁ → (∀ b o, b ≠ I → s₁.heap.get? b = some o → h'.get? b = some o) → Inv I { s₁ with heap := h', toks := tk })
    (lst : ∀ I s₁, Inv I s₁ → s₁.heap.IsList ax items)
    (step : ∀ I v s₁ it, v ∈ items → Inv I s₁ → s₁.heap.get? I = some it → wpAny (model prog w) A (assign target env v) (fun _ s₂ => wpAny (model prog w) A (execs body env)
      (fun f s₃ => match f with
        | .ret v => Q (.ret v) s₃
        | .brk => Q .next s₃
        | _ => Inv I s₃ ∧ s₃.heap.get? I = some it) E s₂) E s₁)
    (fin : ∀ I s₁, Inv I s₁ → Q .next s₁)
    (hE : PassesOwn (model prog w) A env E := by passes_own) :
    wpAny (model prog w) A (pyIter (.ref ax)) (fun it s₂ => codeAny (model prog w) A (.forLoop target it body [] env) (fun r s' => match r with | .ok f => Q f s' | .error e => cameBackBy (model prog w) A env E e s') s₂) E s :=
  list_statesN hh hl (fun I _ s' => Inv I s') h0 (fun I _ s₁ h' tk => keepI I s₁ h' tk) (fun I _ s₁ => lst I s₁) (fun I _ v s₁ it hv hI hg => step I v s₁ it (Array.mem_of_getElem? hv) hI hg) (fun I s₁ => fin I s₁) hE
end
end Mine

-- T14
namespace Mine
open PySem PySem.W PySem.Spec PySem.Calls PyProof.Rows
set_option maxRecDepth 100000
set_option maxHeartbeats 0




theorem BranchesIn.mem {v : List (Addr × Obj)} {vs : List Value} {bs : List (Int × Option Int × Int)} (H : BranchesIn v vs bs) : ∀ x ∈ vs, ∃ tA b e t t' mv mid, x = .ref tA ∧ (tA, ({ cls := .type "tuple", data := .seq #[.int b t, mv, .int e t'] } : Obj)) ∈ v ∧ MidIs mv mid ∧ (b, mid, e) ∈ bs := by
  induction H with
  | nil => exact fun x hx => nomatch hx
  | cons h1 h2 _ ih =>
    intro x hx
    rcases List.mem_cons.mp hx with rfl | hx
    · exact ⟨_, _, _, _, _, _, _, rfl, h1, h2, .head _⟩
    · refine q_hide fun G hG => ?_
      obtain ⟨tA, b, e, t, t', mv, mid, e1, e2, e3, e4⟩ := ih x hx
      exact hG ⟨tA, b, e, t, t', mv, mid, e1, e2, e3, .tail _ e4⟩
theorem ne3 {x L : Nat} (h : x < L) : NeH x (L + 1) ∧ NeH x (L + 1 + 1) ∧ NeH x (L + 1 + 1 + 1) := by
  unfold NeH; refine ⟨?_, ?_, ?_⟩ <;> omega
theorem ne_lists {I : Addr} {l : List (Addr × Obj)} (h : ∀ p ∈ l, p.1 < I) : ∀ p ∈ l, p.1 ≠ I := fun p hp => Nat.ne_of_lt (h p hp)
theorem off_app {new z : List (Addr × Obj)} {as : List Addr} {x : Addr} (hfr : Fresh new as z) (hx : x ∈ as) (h : ∀ p ∈ z, p.1 ≠ x) : ∀ p ∈ new ++ z, p.1 ≠ x := fun p hp => (List.mem_append.mp hp).elim (fun q => (hfr p q).1 x hx) (h p)
theorem news_more {h₀ h : Heap} {L : Addr} {x : Addr × Obj} {l : List (Addr × Obj)} (N : News h₀ L h l) (hm : x ∈ l) : News h₀ L h (x :: l) := fun p hp => by
  rcases List.mem_cons.mp hp with rfl | hp
  · exact N _ hm
  · exact N _ hp
/-- between the turns of _law_branches_right -/
inductive BrJ (L' I nA bA : Addr) (nO : Obj) (bv : List Value) (bn : Nat) (b : Array UInt8) (tb : Tok) (z nw : List (Addr × Obj)) : Prop
  | mk (oE : Obj) (oB : Obj) (oC : Obj) (vE : Option Value) (vB : Option Value) (ps' : Array Value) (new : List (Addr × Obj)) : nw = (L' + 1 + 1 + 1, oE) :: (L' + 1 + 1, oB) :: (L' + 1, oC) :: (144, tabObj ps') :: (nA, nO) :: (bA, listOf bv.toArray bn) :: (new ++ z) →
    oE.data = .cell vE →
    oB.data = .cell vB →
    oC.data = .cell (some (.bytes b tb)) →
    TabOk ((Str.ofString "_law_branches_right" ++ ".<locals>.") ++ "<lambda>") ps' (new ++ z) →
    Fresh new [I, L' + 1 + 1 + 1, L' + 1 + 1, L' + 1, 144, nA, bA] z → BrJ L' I nA bA nO bv bn b tb z nw

/-- the states between the turns of _law_branches_right -/
inductive BrInv (prog : Program) (w : World) (A₀ : Around) (base g₀ : Heap) (l : List Env) (p : Program) (loose : List Str) (mean : ExcName → Option Value) (mg mb : Str → Option Value) (m₀ : Str → Option Value) (s : Shared) (L' nA bA : Addr) (nO : Obj) (bv : List Value) (bn : Nat) (b : Array UInt8) (tb : Tok) (z : List (Addr × Obj)) (I : Addr) (s₁ : Shared) : Prop
  | mk (g : Heap) (nw : List (Addr × Obj)) (h : Heap) (tk : Nat) (u : Str → Option Value) : s₁ = { s with heap := h, toks := tk } →
    KtsTurn (l.filterMap (·.frame)) g₀ g →
    Fr g L' h (fun y => if [Str.ofString "middle"].contains y then u y else m₀ y) →
    News g L' h nw →
    Below A₀ base l g →
    (Mine.hd.heap_39 w.params).In g →
    Top p loose mean mg mb g →
    KtsDicts (l.filterMap (·.frame)) g →
    BrJ L' I nA bA nO bv bn b tb z nw →
    ((∀ q ∈ nw, q.1 ≠ I)) →
    I ≠ L' →
    g.get? I = none → BrInv prog w A₀ base g₀ l p loose mean mg mb m₀ s L' nA bA nO bv bn b tb z I s₁
theorem turn_nil {h₀ h₀' h : Heap} {L : Addr} {m : Str → Option Value} {news : List (Addr × Obj)} (T : KtsTurn [] h₀ h₀') (F : Fr h₀' L h m) (N : News h₀' L h news) : Fr h₀ L h m ∧ News h₀ L h news := by
  refine ⟨⟨F.ns, fun b o e => F.keep b o (T.other b o e (fun q => nomatch q)), by rw [← T.size]; exact F.above⟩, fun q hq => ⟨(N q hq).1, (N q hq).2.1, ?_⟩⟩
  cases z : h₀.get? q.1 with
  | none => rfl
  | some o =>
    have := (N q hq).2.2
    rw [T.other _ o z (fun q => nomatch q)] at this
    cases this
theorem news_but {h₀ h h' : Heap} {L I : Addr} {news : List (Addr × Obj)} (N : News h₀ L h news) (ho : ∀ q ∈ news, q.1 ≠ I) (k : ∀ b o, b ≠ I → h.get? b = some o → h'.get? b = some o) : News h₀ L h' news := fun q hq => ⟨k _ _ (ho q hq) (N q hq).1, (N q hq).2⟩
def Stg9 : Prop := True
theorem cut2F {M : Model} {A : Around} {env : Env} {st1 st2 : Stmt} {rest : List Stmt} {Q : Flow → Shared → Prop} {E : Value → Shared → Prop} {s : Shared} {h₀ : Heap} {L : Addr} {m : Str → Option Value} {news : List (Addr × Obj)}
    (_F : Fr h₀ L s.heap m) (_N : News h₀ L s.heap news)
    (ht : ∀ h' tk', Fr h₀ L h' m → News h₀ L h' news → wpAny M A (execs rest env) Q E { s with heap := h', toks := tk' })
    (h : ∀ P : Shared → Prop, (∀ h' tk', Fr h₀ L h' m → News h₀ L h' news → P { s with heap := h', toks := tk' }) →
       wpAny M A (exec st1 env) (fun f s' => match f with | .next => wpAny M A (exec st2 env) (fun f s' => match f with | .next => P s' | f => Q f s') E s' | f => Q f s') E s) :
    wpAny M A (execs (st1 :: st2 :: rest) env) Q E s :=
  wpAny_execs_cons (wpAny_mono (h (fun s' => wpAny M A (execs rest env) Q E s') ht) (fun f s' q => by cases f <;> first | exact wpAny_execs_cons q | exact q) fun _ _ e => e)
theorem clip_is {n : Nat} {i : Int} (h0 : 0 ≤ i) (h1 : i ≤ n) : clipAt n i = i.toNat := by
  unfold clipAt
  split
  · omega
  · rw [Int.min_eq_left h1, Int.max_eq_right h0]
theorem mid_map {u m₀ : Str → Option Value} {v : Option Value} : (fun y => if y = Str.ofString "middle" then v else if [Str.ofString "middle"].contains y then u y else m₀ y) = fun y => if [Str.ofString "middle"].contains y then (if y = Str.ofString "middle" then v else u y) else m₀ y := by
  funext y
  by_cases h : y = Str.ofString "middle" <;> simp [h]
theorem br_end {prog : Program} {w : World} {A₀ : Around} {base g₀ g g₉ h₉ : Heap} {l : List Env} {p : Program} {loose : List Str} {mean : ExcName → Option Value} {mg mb : Str → Option Value} {m₀ u : Str → Option Value} {s : Shared} {L' nA bA I f c' tA : Addr} {nO it fO oc tO oE oB oC : Obj} {bv : List Value} {bn : Nat} {b : Array UInt8} {tb : Tok} {new z z1 : List (Addr × Obj)}
    {v : Option Value} {ps' : Array Value} {vE vB : Option Value} {tk : Nat} {l9 : List (Addr × Obj)} (F₉ : Fr g₉ L' h₉ (fun y => if y = Str.ofString "middle" then v else if [Str.ofString "middle"].contains y then u y else m₀ y))
    (N₉ : News g₉ L' h₉ ((f, fO) :: (c', oc) :: (tA, tO) :: (I, it) :: (L' + 1 + 1 + 1, oE) :: (L' + 1 + 1, oB) :: (L' + 1, oC) :: (144, tabObj ps') :: (nA, nO) :: (bA, listOf bv.toArray bn) :: z1))
    (hz1 : new ++ z = z1) (T₁ : KtsTurn (l.filterMap (·.frame)) g₀ g) (T₉ : KtsTurn (l.filterMap (·.frame)) g g₉) (B₉ : Below A₀ base l g₉) (X₉ : (Mine.hd.heap_39 w.params).In g₉) (P₉ : Top p loose mean mg mb g₉) (D₉ : KtsDicts (l.filterMap (·.frame)) g₉)
    (dE : oE.data = .cell vE) (dB : oB.data = .cell vB) (dC : oC.data = .cell (some (.bytes b tb))) (K : TabOk ((Str.ofString "_law_branches_right" ++ ".<locals>.") ++ "<lambda>") ps' ((c', oc) :: z1))
    (hc : (c', oc) ∈ z1 ∨ ∀ q ∈ l9, q.1 < c') (hl9 : ∀ q ∈ (tA, tO) :: (I, it) :: (L' + 1 + 1 + 1, oE) :: (L' + 1 + 1, oB) :: (L' + 1, oC) :: (144, tabObj ps') :: (nA, nO) :: (bA, listOf bv.toArray bn) :: z1, ∃ o, (q.1, o) ∈ l9) (hfr : Fresh new [I, L' + 1 + 1 + 1, L' + 1 + 1, L' + 1, 144, nA, bA] z)
    (oz : ∀ q ∈ z1, q.1 ≠ I) (a3 : NeH (L' + 1 + 1 + 1) I) (a4 : NeH (L' + 1 + 1) I) (a5 : NeH (L' + 1) I) (a6 : NeH 144 I) (a7 : NeH nA I ∧ NeH bA I) (i₁ : I ≠ L') :
    BrInv prog w A₀ base g₀ l p loose mean mg mb m₀ s L' nA bA nO bv bn b tb z I { s with heap := h₉, toks := tk } ∧ h₉.get? I = some it := by
  rw [mid_map] at F₉
  subst hz1
  refine ⟨?_, (N₉ _ (.tail _ (.tail _ (.tail _ (.head _))))).1⟩
  have key : ∀ new', (∀ q ∈ new' ++ z, q = (c', oc) ∨ q ∈ new ++ z) → TabOk ((Str.ofString "_law_branches_right" ++ ".<locals>.") ++ "<lambda>") ps' (new' ++ z) → Fresh new' [I, L' + 1 + 1 + 1, L' + 1 + 1, L' + 1, 144, nA, bA] z → (∀ q ∈ new' ++ z, q.1 ≠ I) →
      BrInv prog w A₀ base g₀ l p loose mean mg mb m₀ s L' nA bA nO bv bn b tb z I { s with heap := h₉, toks := tk } := fun new' hn hK hF ho =>
    ⟨g₉, _, h₉, tk, _, rfl, T₁.trans T₉, F₉, (by
      repeat refine List.forall_mem_cons.mpr ⟨N₉ _ (by k_mem), ?_⟩
      exact fun q hq => (hn q hq).elim (fun e => e ▸ N₉ _ (.tail _ (.head _))) fun hq => N₉ q (.tail _ (.tail _ (.tail _ (.tail _ (.tail _ (.tail _ (.tail _ (.tail _ (.tail _ (.tail _ hq))))))))))), B₉, X₉, P₉, D₉, ⟨oE, oB, oC, vE, vB, ps', new', rfl, dE, dB, dC, hK, hF⟩, (List.forall_mem_cons.mpr ⟨a3, List.forall_mem_cons.mpr ⟨a4, List.forall_mem_cons.mpr ⟨a5, List.forall_mem_cons.mpr ⟨a6, List.forall_mem_cons.mpr ⟨a7.1, List.forall_mem_cons.mpr ⟨a7.2, ho⟩⟩⟩⟩⟩⟩), i₁, (N₉ _ (.tail _ (.tail _ (.tail _ (.head _))))).2.2⟩
  rcases hc with hc | hc
  · exact key new (fun q hq => .inr hq) (K.mono fun q hq => (List.mem_cons.mp hq).elim (fun e => e ▸ hc) id) hfr oz
  · have hc' : ∀ q ∈ (tA, tO) :: (I, it) :: (L' + 1 + 1 + 1, oE) :: (L' + 1 + 1, oB) :: (L' + 1, oC) :: (144, tabObj ps') :: (nA, nO) :: (bA, listOf bv.toArray bn) :: (new ++ z), c' ≠ q.1 := fun q hq => by
      obtain ⟨o, ho⟩ := hl9 q hq
      exact Ne.symm (Nat.ne_of_lt (hc (q.1, o) ho))
    refine key ((c', oc) :: new) (fun q hq => (List.mem_cons.mp hq).imp id id) K (Fresh.cons ?_ ?_ hfr) ?_
    · exact List.forall_mem_cons.mpr ⟨hc' (_, it) (by k_mem), List.forall_mem_cons.mpr ⟨hc' (_, oE) (by k_mem), List.forall_mem_cons.mpr ⟨hc' (_, oB) (by k_mem), List.forall_mem_cons.mpr ⟨hc' (_, oC) (by k_mem), List.forall_mem_cons.mpr ⟨hc' (_, tabObj ps') (by k_mem), List.forall_mem_cons.mpr ⟨hc' (_, nO) (by k_mem), List.forall_mem_cons.mpr ⟨hc' (_, listOf bv.toArray bn) (by k_mem), fun _ h => nomatch h⟩⟩⟩⟩⟩⟩⟩
    · intro q hq
      exact hc' q (.tail _ (.tail _ (.tail _ (.tail _ (.tail _ (.tail _ (.tail _ (.tail _ (List.mem_append_right _ hq)))))))))
    · intro q hq
      rcases List.mem_cons.mp hq with rfl | hq
      · exact hc' (_, it) (.tail _ (.head _))
      · exact oz q hq
section
variable {prog : Program} {w : World} {p : Program} {loose : List Str} {mean : ExcName → Option Value} {mg mb : Str → Option Value}
    {dp un : Nat} {gd : Option (List Code)} {cn : Str} {cs : Scope} {a : Addr} {ccd : Value} {cl : List (Str × Addr)} {outer : List Env} {A₀ : Around} {base h₀ : Heap} {L : Addr} {m : Str → Option Value} {news : List (Addr × Obj)} {s : Shared}
    {Q E : Value → Shared → Prop} 
variable (B : Below A₀ base outer h₀) (F : Fr h₀ L s.heap m) (X : (Mine.hd.heap_39 w.params).In h₀) (T : Top p loose mean mg mb h₀) (hk : cs.kind = .function)
include B F X T hk

omit hk in
theorem c_branches_right (hk : cs.kind = .function) {b : Array UInt8} {tb : Tok} {ks : List Int} {nA pA bA : Addr} {nO : Obj} {bv : List Value} {bn : Nat} {bs : List (Int × Option Int × Int)} {z : List (Addr × Obj)} {ps : Array Value}
    (C : CodeHd base 148 144) (XB : (Mine.hd.heap_39 w.params).In base) (TB : Top p loose mean mg mb base) (ho : outer = [])
    (N : News h₀ L s.heap ((144, tabObj ps) :: (nA, nO) :: (bA, listOf bv.toArray bn) :: z)) (K : TabOk ((Str.ofString "_law_branches_right" ++ ".<locals>.") ++ "<lambda>") ps z) (hN : NotesIs prog w pA bA nO) (hB : BranchesIn z bv bs) (hok : ∀ x ∈ bs, BranchOk ks x)
    (hb : KBw.bInts b = ks) (hl : ks.length ≤ 2000) (o1 : ∀ p ∈ z, p.1 ≠ 144) (n1 : NeH nA 144) (n2 : NeH bA 144) (hd : dp + 60 < recursionLimit) (hu : un + 900 < cLine)
    (hret : ∀ h' tk' ps' new, Fr h₀ L h' m → News h₀ L h' ((144, tabObj ps') :: (nA, nO) :: (bA, listOf bv.toArray bn) :: (new ++ z)) → TabOk ((Str.ofString "_law_branches_right" ++ ".<locals>.") ++ "<lambda>") ps' (new ++ z) → Fresh new [144, nA, bA] z → Q (.bool true) { s with heap := h', toks := tk' }) :
    wpAny (model prog w) (ktrTop dp un gd cn cs L a ccd cl outer) (call (.ref 149) [.bytes b tb, .ref nA]) Q E s := by
  subst ho
  w_top off
  k_with_none
  k_with "subscriptTail" => (k_here; (with_reducible show wpAny _ _ (subscriptTail _ _ (Value.ref _) (Value.str _ _)) _ _ _); k_dflt (refine kda_item (knd := PySem.strKind _ _) (by k_asm) (by k_mem) (by assumption) (strKind_is _ _ _ _) (by rfl) ?_))
  k_with "leaving ref" => (k_here; first | (k_dflt (refine' leave_onG rfl ?K ?F ?R ?U ?_; (case R => assumption); (case K => assumption); (case F => assumption); (case U => assumption)); intro _ _ _) | (k_dflt (refine' leave_first ?K ?F ?N ?ne ?_; (case K => assumption); (case F => k_asm); (case N => k_asm); (case ne => k_asm)); intro _ _ _))
  k_with "eval Lambda" => (k_here; (k_dflt (refine' kla_eval ?d0 ?_; (case d0 => exact rfl))); (k_dflt (refine' lam_any ?F ?N ?T ?C ?cd ?U ?K ?hz ?cl ?_; (case F => k_asm); (case N => k_asm); (case T => k_asm); (case cd => exact rfl); (case C => kn_code); (case U => k_updF); (case K => assumption); (case hz => (intro p9 hp9; repeat (first | exact hp9 | refine List.Mem.tail _ ?_))); (case cl => exact rfl); k_whole)); intro _ _ _ _ _ _ _ _ _ _ zqN' _ _ _ _ zql1; (try dsimp only at zqN'); (try k_lt zql1))
  k_with "exec For Tuple Subscript cons nil" => (k_here; (with_unfolding_all refine' wpAny_For ?_ (by intro _; rfl)); k_whole)
  k_with "pyIter ref" => (k_here; refine hold ?_)
  k_with "call ref" => (k_here; (with_reducible show wpAny _ _ (call (Value.ref 142) _) _ _ _); refine hold ?_)
  k_with "call ref" => ((k_here; (with_reducible show wpAny _ _ (call (Value.ref 88) _) _ _ _); first | ((k_dflt (refine' c_behind_branch ?B ?F ?X ?T ?hk ?N ?hd ?hu ?hb ?hl ?h1 ?h2 ?H (fun _ zqhx9 _ _ _ _ _ => ?_) (fun zqh9 => ?g2); (case B => k_asm); (case F => k_asm); (case X => k_asm); (case T => k_asm); (case hk => first | rfl | assumption); (case N => k_asm); (case hd => ktr_room); (case hu => ktr_units); (case hb => first | assumption | rfl); (case hl => first | omega | (simp only [List.length_take]; omega)); (case h1 => omega); (case h2 => omega); (case H => assumption); (case g2 => first | cases zqh9 | exact absurd zqh9 (by decide)))); (injection zqhx9 with zqhq9)) | ((k_dflt (refine' c_behind_branch ?B ?F ?X ?T ?hk ?N ?hd ?hu ?hb ?hl ?h1 ?h2 ?H (fun _ zqhx9 _ _ _ _ _ => ?g1) (fun zqh9 => ?_); (case B => k_asm); (case F => k_asm); (case X => k_asm); (case T => k_asm); (case hk => first | rfl | assumption); (case N => k_asm); (case hd => ktr_room); (case hu => ktr_units); (case hb => first | assumption | rfl); (case hl => first | omega | (simp only [List.length_take]; omega)); (case h1 => omega); (case h2 => omega); (case H => assumption); (case g1 => cases zqhx9))); (intro _ _ _ _ _ _ _))); (all_goals (try dsimp only)))
  k_with "execs cons" => (k_here; dsimp only)
  k_with "execs cons" => (k_here; with_reducible refine q_tok (fun tk => ?_))
  k_with "execs cons" => (k_here; k_fold)
  k_with "execs cons" => (k_here; (have zqhS9 : Stg9 := by with_reducible assumption); clear zqhS9; refine hold ?_)
  unfold NotesIs at hN
  refine wpAny_call ?_
  k_dflt (refine' enterSC ?k1 ?k2 ?k3 ?k4 ?k5 ?kQ ?kA ?kF ?kK ?k6 ?k7 ?k8 ?k9 ?kB ?kD ?_ ?c2 ?c3 ?c4; (case kA => exact rfl); (case kF => exact rfl); (case kK => assumption); (case k1 => k_asm); (case k2 => k_asm); (case k3 => k_asm); (case k4 => k_asm); (case k5 => k_asm); (case kQ => first | assumption | exact ktsDicts_nil); (case k6 => k_is); (case k7 => k_is); (case k8 => ktr_room); (case k9 => exact BindsTo.of_eq rfl); (case kB => exact rfl); (case kD => decide +kernel); (case c2 => exact rfl); (case c3 => exact rfl); (case c4 => exact rfl); k_whole; intro g' L' h' tk' cells' FG' F' N' Y' B' X' T' l1 D' bk; (try k_lt l1); k_cells Y'; (try simp only [List.cons_append, List.nil_append] at N'); (try dsimp only); (try k_fold))
  k_steps
  refine unhold ?_
  rename Fr g' _ _ _ => fr
  rename (Obj.data _ = Data.cell (bindC _ _ _ (Str.ofString "end"))) => d1'
  rename (Obj.data _ = Data.cell (bindC _ _ _ (Str.ofString "begin"))) => d2'
  rename (Obj.data _ = Data.cell (bindC _ _ _ (Str.ofString "code"))) => d3'
  obtain ⟨l144, lnA, lbA, lz⟩ := l1
  have lz := kst_ltOf lz
  have g1 : NeH nA (L' + 1) ∧ NeH nA (L' + 1 + 1) ∧ NeH nA (L' + 1 + 1 + 1) := ne3 lnA
  have g2 : NeH bA (L' + 1) ∧ NeH bA (L' + 1 + 1) ∧ NeH bA (L' + 1 + 1 + 1) := ne3 lbA
  have g3 : NeH 144 (L' + 1) ∧ NeH 144 (L' + 1 + 1) ∧ NeH 144 (L' + 1 + 1 + 1) := ne3 l144
  have g4 : NeH (L' + 1) (L' + 1 + 1) ∧ NeH (L' + 1) (L' + 1 + 1 + 1) ∧ NeH (L' + 1 + 1) (L' + 1 + 1 + 1) := by
    unfold NeH; refine ⟨?_, ?_, ?_⟩ <;> omega
  have g5 : ∀ x : Nat, L' ≤ x → ∀ p ∈ z, p.1 ≠ x := fun x hx p hp => Nat.ne_of_lt (Nat.lt_of_lt_of_le (lz p hp) hx)
  obtain ⟨m₀, fr⟩ : ∃ m₀, Fr g' L' h' m₀ := ⟨_, fr⟩
  have fr' : Fr g' L' h' (fun y => if [Str.ofString "middle"].contains y then m₀ y else m₀ y) := by simpa only [ite_self] using fr
  refine list_states rfl ⟨_, (N' _ (.tail _ (.tail _ (.tail _ (.tail _ (.tail _ (.head _))))))).1, rfl, _, rfl⟩ (BrInv prog w (ktrTop dp un gd cn cs L a ccd cl []) base g' [envX cn cs L a ccd cl] p loose mean mg mb m₀ s L' nA bA nO bv bn b tb z) ?start ?keepI ?lst ?step ?fin ?pass
  case pass => passes_own
  case start =>
    refine ⟨g', _, _, _, _, rfl, KtsTurn.refl, fr'.push _, fun q hq => ⟨Heap.get?_push_of_some _ (N' q hq).1, (N' q hq).2⟩, B', X', T', D', ⟨_, _, _, _, _, ps, [], rfl, d1', d2', d3', K, Fresh.nil⟩, fun q hq => Nat.ne_of_lt (Heap.lt_size (N' q hq).1), Nat.ne_of_gt fr.ns.lt, next_is_new fr⟩
  case keepI =>
    rintro I s₁ h' tk ⟨g, nw, h, tk₀, u, rfl, T₁, F₁, N₁, B₁, X₁, P₁, D₁, J₁, o₁, i₁, i₂⟩ hk
    exact ⟨g, nw, _, _, u, rfl, T₁, fr_turn F₁ i₂ i₁ hk, news_but N₁ o₁ hk, B₁, X₁, P₁, D₁, J₁, o₁, i₁, i₂⟩
  case lst =>
    rintro I s₁ ⟨g, nw, h, tk₀, u, rfl, T₁, F₁, N₁, B₁, X₁, P₁, D₁, ⟨oE, oB, oC, vE, vB, ps', new, rfl, _⟩, o₁, i₁, i₂⟩
    exact ⟨_, (N₁ _ (.tail _ (.tail _ (.tail _ (.tail _ (.tail _ (.head _))))))).1, rfl, _, rfl⟩
  case fin =>
    rintro I s₁ ⟨g, nw, h, tk₀, u, rfl, T₁, F₁, N₁, B₁, X₁, P₁, D₁, ⟨oE, oB, oC, vE, vB, ps', new, rfl, _, _, _, K₁, hfr⟩, o₁, i₁, i₂⟩
    k_steps
    dsimp only
    obtain ⟨h₀', T₂, F₂, N₂, B₂, D₂⟩ := bk _ _ _ _ _ T₁ F₁ (tailN (tailN (tailN N₁)))
    obtain ⟨F₃, N₃⟩ := turn_nil T₂ F₂ N₂
    exact hret _ _ ps' new F₃ N₃ K₁ (hfr.sub (fun a ha => .tail _ (.tail _ (.tail _ (.tail _ ha)))) fun q hq => hq)
  case step =>
    clear fr fr' N' B' X' T' D'
    rintro I v s₁ it hv ⟨g, nw, h, tk₀, u, rfl, T₁, F₁, N₁, B₁, X₁, P₁, D₁, ⟨oE, oB, oC, vE, vB, ps', new, rfl, dE, dB, dC, K₁, hfr⟩, o₁, i₁, i₂⟩ hit
    obtain ⟨tA, bb, e, t, t', mv, mid, rfl, htA, hmid, hbs⟩ := hB.mem v (by simpa using hv)
    obtain ⟨⟨k1, H1⟩, ⟨k2, H2⟩, H3, ⟨k4, H4⟩, q1, q2, q3⟩ := hok _ hbs
    dsimp only at H1 H2 H3 H4 q1 q2 q3
    have a1 : NeH tA (L' + 1) ∧ NeH tA (L' + 1 + 1) ∧ NeH tA (L' + 1 + 1 + 1) := ne3 (lz _ htA)
    have a2 : NeH tA 144 := o1 _ htA
    have a3 : NeH (L' + 1 + 1 + 1) I := o₁ _ (.head _)
    have a4 : NeH (L' + 1 + 1) I := o₁ _ (.tail _ (.head _))
    have a5 : NeH (L' + 1) I := o₁ _ (.tail _ (.tail _ (.head _)))
    have a6 : NeH 144 I := o₁ _ (.tail _ (.tail _ (.tail _ (.head _))))
    have b1 : ∀ p ∈ new ++ z, p.1 ≠ L' + 1 := off_app hfr (.tail _ (.tail _ (.tail _ (.head _)))) (g5 (L' + 1) (Nat.le_add_right L' 1))
    have b2 : ∀ p ∈ new ++ z, p.1 ≠ L' + 1 + 1 := off_app hfr (.tail _ (.tail _ (.head _))) (g5 (L' + 1 + 1) (Nat.le_add_right L' 2))
    have b3 : ∀ p ∈ new ++ z, p.1 ≠ L' + 1 + 1 + 1 := off_app hfr (.tail _ (.head _)) (g5 (L' + 1 + 1 + 1) (Nat.le_add_right L' 3))
    have b4 : ∀ p ∈ new ++ z, p.1 ≠ 144 := off_app hfr (.tail _ (.tail _ (.tail _ (.tail _ (.head _))))) o1
    obtain ⟨c1, c2, c3⟩ := a1
    obtain ⟨c4, c5, c6⟩ := g1
    obtain ⟨c7, c8, c9⟩ := g2
    obtain ⟨d1, d2, d3⟩ := g3
    obtain ⟨d4, d5, d6⟩ := g4
    have C' : CodeHd g 148 144 := C.keeps B₁.stays
    have N₂ : News g L' h ((I, it) :: (L' + 1 + 1 + 1, oE) :: (L' + 1 + 1, oB) :: (L' + 1, oC) :: (144, tabObj ps') :: (nA, nO) :: (bA, listOf bv.toArray bn) :: (new ++ z)) := List.forall_mem_cons.mpr ⟨⟨hit, i₁, i₂⟩, N₁⟩
    have N₃ := news_more (x := (tA, _)) N₂ (List.Mem.tail _ (.tail _ (.tail _ (.tail _ (.tail _ (.tail _ (.tail _ (List.mem_append_right _ htA))))))))
    have o₂ : ∀ q ∈ new ++ z, q.1 ≠ I := fun q hq => o₁ q (.tail _ (.tail _ (.tail _ (.tail _ (.tail _ (.tail _ hq))))))
    have o₃ : NeH nA I ∧ NeH bA I := ⟨o₁ _ (.tail _ (.tail _ (.tail _ (.tail _ (.head _))))), o₁ _ (.tail _ (.tail _ (.tail _ (.tail _ (.tail _ (.head _))))))⟩
    clear N₁ N₂ o₁ hit
    have H4 : BrTo (List.take (clipAt ks.length (e - 1)) ks) false k4 0 bb none := by rw [clip_is (by omega) (by omega)]; exact H4
    generalize hz1 : new ++ z = z1 at N₃ b1 b2 b3 b4 K₁ o₂
    have hS9 : Stg9 := trivial
    show wpAny _ _ _ _ _ _
    k_fold
    k_steps
    refine unhold ?_
    clear hS9
    try dsimp only
    rename Fr g L' _ _ => F₅
    rename News g L' _ _ => N₅
    show wpAny _ _ _ _ _ _
    k_fold
    refine cut2F F₅ N₅ ?tail ?head
    case head =>
      intro P hP
      cases mid with
      | none =>
        have e1 : mv = .none := hmid
        subst e1
        replace H1 : BrTo ks true k1 0 bb (some e) := H1
        clear hmid H3
        k_steps
        · exfalso; omega
        · exfalso; omega
        · exact hP _ _ (by assumption) (by assumption)
      | some x =>
        obtain ⟨tm, rfl⟩ := hmid
        replace H1 : BrTo ks true k1 0 bb (some x) := H1
        obtain ⟨y1, y2, k3, H3⟩ := H3 x rfl
        k_steps
        · exfalso; omega
        · exfalso; omega
        · exfalso; omega
        · exact hP _ _ (by assumption) (by assumption)
    case tail =>
      clear F₅ N₅ H1 H2 H3
      intro h5 tk5 F₅ N₅
      k_steps
      refine unhold ?_
      rename Fr g L' _ _ => F₅
      rename News g L' _ ((_, kla_obj _ _ _ _ _ _ _ _ _) :: _) => N₅
      rename TabOk _ _ (_ :: _) => K₅
      rename Obj.data _ = Data.fields _ => w1
      rename _ = some (Value.str _ _) => w2
      rename Obj.data _ = Data.cell (some (Value.int bb t)) => w3
      rename Obj.data _ = Data.cell (some (Value.int e t')) => w4
      k_dflt (refine' c_answer B₁ F₅ X₁ P₁ rfl N₅ (.head _) XB TB D₁ ?hd ?hu ?hcall ?hret)
      case hd => ktr_room
      case hu => ktr_units
      case hcall =>
        intro env₁ g₉ L₉ m₉ h₉ tk₉ Q₉ E₉ hf₉ hk₉ B₉ F₉ X₉ P₉ N₉ href
        refine wpAny_call ?_
        k_dflt (refine' kla_code ?k1 ?k2 ?k3 ?k4 ?k5 ?kA ?kF ?kK ?k6 ?k7 ?k8 ?k9 ?kB ?_ ?c2 ?c3 ?c4 ?c5; (case kA => exact rfl); (case kF => exact hf₉); (case kK => exact hk₉); (case k1 => exact B₉); (case k2 => exact F₉); (case k3 => exact X₉); (case k4 => exact N₉); (case k5 => exact P₉); (case k6 => exact List.Mem.head _); (case k7 => exact codeRec_news N₉ (List.Mem.tail _ (List.Mem.head _)) w1 w2); (case k8 => ktr_room); (case k9 => exact rfl); (case c5 => decide); (case kB => exact locs rfl); (case c2 => exact rfl); (case c3 => exact rfl); (case c4 => exact rfl); k_whole; intro g' L' h' FG' F' N' B' X' T'; (try dsimp only); (try k_fold))
        k_steps
        exact href _ _ _ _ (by assumption) (by assumption) (by assumption)
      case hret =>
        intro g₉ h₉ tk₉ t₉ T₉ F₉ N₉ B₉ X₉ P₉ D₉
        k_steps
        case refine_1 => exact (br_end F₉ N₉ hz1 T₁ T₉ B₉ X₉ P₉ D₉ w4 w3 dC K₅ (by assumption) (List.forall_mem_cons.mpr ⟨⟨_, by k_mem⟩, List.forall_mem_cons.mpr ⟨⟨_, by k_mem⟩, List.forall_mem_cons.mpr ⟨⟨_, by k_mem⟩, List.forall_mem_cons.mpr ⟨⟨_, by k_mem⟩, List.forall_mem_cons.mpr ⟨⟨_, by k_mem⟩, List.forall_mem_cons.mpr ⟨⟨_, by k_mem⟩, List.forall_mem_cons.mpr ⟨⟨_, by k_mem⟩, List.forall_mem_cons.mpr ⟨⟨_, by k_mem⟩, fun q hq => ⟨_, by repeat (first | exact hq | refine List.Mem.tail _ ?_)⟩⟩⟩⟩⟩⟩⟩⟩⟩) hfr o₂ a3 a4 a5 a6 o₃ i₁).1
        case refine_2 => exact (N₉ _ (.tail _ (.tail _ (.tail _ (.head _))))).1

end
end Mine

-- T15
namespace Mine
open PySem PySem.W PySem.Spec PySem.Calls PyProof.Rows
set_option maxRecDepth 100000
set_option maxHeartbeats 0

theorem PushAt.two {K : List Int} {x : Int × List Int × Int} (h : PushAt K x) : x.1 + 2 ≤ x.2.2 := by
  obtain ⟨pre, p, post, rfl, h, e1, e2⟩ := h
  have := h.len
  omega
noncomputable def fewB (ks : List Int) (n : Int) : Bool := match shapeF ks n with
  | some (_, y, true) => y == 1 || y == 2 || y == 3
  | _ => true
theorem few_of {ks : List Int} {n : Int} (h : fewB ks n = true) : ∀ x y, shapeF ks n = some (x, y, true) → y = 1 ∨ y = 2 ∨ y = 3 := by
  intro x y e
  unfold fewB at h
  rw [e] at h
  simpa [or_assoc] using h
theorem ne_told {prog : Program} {w : World} {A : Around} {E : Value → Shared → Prop} {s : Shared} {h₀ : Heap} {L : Addr} {news : List (Addr × Obj)} {Q : Value → Shared → Prop} {r r2 l l2 : Addr} {e : Int} {te t2 : Tok} {vs vs2 : List Value} {ws : List Int} {n n2 : Nat}
    (N : News h₀ L s.heap news) (h1 : (r, ({ cls := .type "tuple", data := .seq #[.ref l, .int e te] } : Obj)) ∈ news) (h2 : (l, listOf vs.toArray n) ∈ news) (i1 : IntsAre vs ws)
    (h3 : (r2, ({ cls := .type "tuple", data := .seq #[.ref l2, .int e t2] } : Obj)) ∈ news) (h4 : (l2, listOf vs2.toArray n2) ∈ news) (i2 : IntsAre vs2 ws) (hu : A.units + 64 < cLine) (h : Q (.bool false) s) :
    wpAny (model prog w) A (compareOp .NotEq (.ref r) (.ref r2)) Q E s := by
  have rd : ∀ {x y : Addr} {us : List Value} {t : Tok} {k : Nat}, (x, ({ cls := .type "tuple", data := .seq #[.ref y, .int e t] } : Obj)) ∈ news → (y, listOf us.toArray k) ∈ news → IntsAre us ws → ∃ as, Reads s.heap (.ref x) (.tuple [.list (ws.map .int), .int e]) as := fun h1 h2 i =>
    ⟨_, reads_tuple_at (N _ h1).1 rfl rfl (ReadsAll.cons (reads_newData ⟨_, (N _ h2).1, rfl, _, rfl⟩ (ke_carried i)) (ReadsAll.cons (Reads.int _ _) ReadsAll.nil))⟩
  obtain ⟨as, ra⟩ := rd h1 h2 i1
  obtain ⟨bs, rb⟩ := rd h3 h4 i2
  have sh : SeqAt.shaped (.tuple [.list (ws.map .int), .int e]) = true := by
    simp [SeqAt.shaped, PyData.canLay0, PyData.canLayAll0, PyData.depth, PyData.depthAll, ke_canLayAll0, ke_depthAll]
  refine ne_dataH ra rb sh sh hu ?_
  have q : PyData.eqv (.tuple [.list (ws.map .int), .int e]) (.tuple [.list (ws.map .int), .int e]) = true := by
    simp [PyData.eqv, PyData.eqvAll, ked_eqvAll]
  rw [q]; exact h
section
variable {prog : Program} {w : World} {p : Program} {loose : List Str} {mean : ExcName → Option Value} {mg mb : Str → Option Value}
    {dp un : Nat} {gd : Option (List Code)} {cn : Str} {cs : Scope} {a : Addr} {ccd : Value} {cl : List (Str × Addr)} {outer : List Env} {A₀ : Around} {base h₀ : Heap} {L : Addr} {m : Str → Option Value} {news : List (Addr × Obj)} {s : Shared}
    {Q E : Value → Shared → Prop} 
variable (B : Below A₀ base outer h₀) (F : Fr h₀ L s.heap m) (X : (Mine.hd.heap_39 w.params).In h₀) (T : Top p loose mean mg mb h₀) (hk : cs.kind = .function)
include B F X T hk

theorem c_pushed_ok {b : Array UInt8} {tb : Tok} {n : Int} {t : Tok} {ks ws : List Int} {e : Int} (N : News h₀ L s.heap news) (hd : dp + 25 < recursionLimit) (hu : un + 160 < cLine) (hb : KBw.bInts b = ks) (hl : ks.length ≤ 2000) (hn1 : 0 ≤ n) (hn2 : n < ks.length)
    (hx : pushF ks n = some (ws, e)) (hfew : ∀ x y, shapeF ks n = some (x, y, true) → y = 1 ∨ y = 2 ∨ y = 3)
    (hret : ∀ h' tk' r l vs nn te, Fr h₀ L h' m → News h₀ L h' ((r, ({ cls := .type "tuple", data := .seq #[.ref l, .int e te] } : Obj)) :: (l, listOf vs.toArray nn) :: news) → IntsAre vs ws → l < r → AllLt r news → AllLt l news → Q (.ref r) { s with heap := h', toks := tk' }) :
    wpAny (model prog w) (ktrTop dp un gd cn cs L a ccd cl outer) (call (.ref 74) [.bytes b tb, .int n t]) Q E s :=
  c_pushed B F X T hk N hd hu hb hl hn1 hn2 hfew (fun ws' e' q => by rw [hx] at q; cases q; exact hret) fun q => by rw [hx] at q; cases q
theorem c_pushed_no {b : Array UInt8} {tb : Tok} {n : Int} {t : Tok} {ks : List Int} (N : News h₀ L s.heap news) (hd : dp + 25 < recursionLimit) (hu : un + 160 < cLine) (hb : KBw.bInts b = ks) (hl : ks.length ≤ 2000) (hn1 : 0 ≤ n) (hn2 : n < ks.length)
    (hx : pushF ks n = none) (hfew : ∀ x y, shapeF ks n = some (x, y, true) → y = 1 ∨ y = 2 ∨ y = 3)
    (href : Refuses base (envX cn cs L a ccd cl) outer h₀ L m news E s) :
    wpAny (model prog w) (ktrTop dp un gd cn cs L a ccd cl outer) (call (.ref 74) [.bytes b tb, .int n t]) Q E s :=
  c_pushed B F X T hk N hd hu hb hl hn1 hn2 hfew (fun ws' e' q => by rw [hx] at q; cases q) fun _ => href
theorem c_behind_ok {b : Array UInt8} {tb : Tok} {n : Int} {t : Tok} {ks : List Int} {x : Int} (N : News h₀ L s.heap news) (hd : dp + 20 < recursionLimit) (hu : un + 160 < cLine) (hb : KBw.bInts b = ks) (hl : ks.length ≤ 2000) (hn1 : 0 ≤ n) (hn2 : n ≤ 5000)
    (hx : nextF ks n = some x) (hret : ∀ h' tk' tx, Fr h₀ L h' m → News h₀ L h' news → Q (.int x tx) { s with heap := h', toks := tk' }) :
    wpAny (model prog w) (ktrTop dp un gd cn cs L a ccd cl outer) (call (.ref 81) [.bytes b tb, .int n t]) Q E s :=
  c_behind B F X T hk N hd hu hb hl hn1 hn2 (fun y q => by rw [hx] at q; cases q; exact hret) fun q => by rw [hx] at q; cases q
theorem c_behind_no {b : Array UInt8} {tb : Tok} {n : Int} {t : Tok} {ks : List Int} (N : News h₀ L s.heap news) (hd : dp + 20 < recursionLimit) (hu : un + 160 < cLine) (hb : KBw.bInts b = ks) (hl : ks.length ≤ 2000) (hn1 : 0 ≤ n) (hn2 : n ≤ 5000)
    (hx : nextF ks n = none) (href : Refuses base (envX cn cs L a ccd cl) outer h₀ L m news E s) :
    wpAny (model prog w) (ktrTop dp un gd cn cs L a ccd cl outer) (call (.ref 81) [.bytes b tb, .int n t]) Q E s :=
  c_behind B F X T hk N hd hu hb hl hn1 hn2 (fun y q => by rw [hx] at q; cases q) fun _ => href
theorem c_branch_ok {b : Array UInt8} {tb : Tok} {n : Int} {t : Tok} {ks : List Int} {we : Bool} {x : Int} {k₀ : Nat} (N : News h₀ L s.heap news) (hd : dp + 25 < recursionLimit) (hu : un + 200 < cLine) (hb : KBw.bInts b = ks) (hl : ks.length ≤ 2000) (hn1 : 0 ≤ n) (hn2 : n ≤ 5000)
    (H : BrTo ks we k₀ 0 n (some x)) (hret : ∀ h' tk' tx, Fr h₀ L h' m → News h₀ L h' news → Q (.int x tx) { s with heap := h', toks := tk' }) :
    wpAny (model prog w) (ktrTop dp un gd cn cs L a ccd cl outer) (call (.ref 88) [.bytes b tb, .int n t, .bool we]) Q E s :=
  c_behind_branch B F X T hk N hd hu hb hl hn1 hn2 H (fun y q => by cases q; exact hret) fun q => by cases q
theorem c_fn_ok {b : Array UInt8} {tb : Tok} {n : Int} {t : Tok} {ks : List Int} {x : Int} {k₀ : Nat} (N : News h₀ L s.heap news) (hd : dp + 25 < recursionLimit) (hu : un + 200 < cLine) (hb : KBw.bInts b = ks) (hl : ks.length ≤ 2000) (hn1 : 0 ≤ n) (hn2 : n ≤ 5000)
    (H : FnTo ks k₀ n (some x)) (hret : ∀ h' tk' tx, Fr h₀ L h' m → News h₀ L h' news → Q (.int x tx) { s with heap := h', toks := tk' }) :
    wpAny (model prog w) (ktrTop dp un gd cn cs L a ccd cl outer) (call (.ref 95) [.bytes b tb, .int n t]) Q E s :=
  c_behind_function B F X T hk N hd hu hb hl hn1 hn2 H (fun y q => by cases q; exact hret) fun q => by cases q
theorem c_fn_no {b : Array UInt8} {tb : Tok} {n : Int} {t : Tok} {ks : List Int} {k₀ : Nat} (N : News h₀ L s.heap news) (hd : dp + 25 < recursionLimit) (hu : un + 200 < cLine) (hb : KBw.bInts b = ks) (hl : ks.length ≤ 2000) (hn1 : 0 ≤ n) (hn2 : n ≤ 5000)
    (H : FnTo ks k₀ n none) (href : Refuses base (envX cn cs L a ccd cl) outer h₀ L m news E s) :
    wpAny (model prog w) (ktrTop dp un gd cn cs L a ccd cl outer) (call (.ref 95) [.bytes b tb, .int n t]) Q E s :=
  c_behind_function B F X T hk N hd hu hb hl hn1 hn2 H (fun y q => by cases q) fun _ => href
end
end Mine

-- T16
namespace Mine
open PySem PySem.W PySem.Spec PySem.Calls PyProof.Rows
set_option maxRecDepth 100000
set_option maxHeartbeats 0

section
variable {prog : Program} {w : World} {p : Program} {loose : List Str} {mean : ExcName → Option Value} {mg mb : Str → Option Value}
    {dp un : Nat} {gd : Option (List Code)} {cn : Str} {cs : Scope} {a : Addr} {ccd : Value} {cl : List (Str × Addr)} {outer : List Env} {A₀ : Around} {base h₀ : Heap} {L : Addr} {m : Str → Option Value} {news : List (Addr × Obj)} {s : Shared}
    {Q E : Value → Shared → Prop} 
variable (B : Below A₀ base outer h₀) (F : Fr h₀ L s.heap m) (X : (Mine.hd.heap_39 w.params).In h₀) (T : Top p loose mean mg mb h₀) (hk : cs.kind = .function)
include B F X T hk

theorem c_answer0 {f : Addr} {oc : Value} {od : Option Addr} {fd : FuncData} {sl : Array (Option Value)} (N : News h₀ L s.heap news) (hm : (f, (⟨oc, od, .func fd, sl⟩ : Obj)) ∈ news) (ho : outer = []) (XB : (Mine.hd.heap_39 w.params).In base) (TB : Top p loose mean mg mb base) (hd : dp + 40 < recursionLimit) (hu : un + 400 < cLine)
    (hcall : ∀ env₁ g L' m' h' tk' (Q' E' : Value → Shared → Prop), env₁.frame = some L' → env₁.scope.kind = .function → Below (ktrTop dp un gd cn cs L a ccd cl outer) base (envX cn cs L a ccd cl :: outer) g → Fr g L' h' m' → (Mine.hd.heap_39 w.params).In g → Top p loose mean mg mb g → News g L' h' news →
      Refuses base env₁ (envX cn cs L a ccd cl :: outer) g L' m' news E' { s with heap := h', toks := tk' } → wpAny (model prog w) ((ktrTop dp un gd cn cs L a ccd cl outer).deeper env₁) (call (.ref f) []) Q' E' { s with heap := h', toks := tk' })
    (hret : ∀ h' tk' t, Fr h₀ L h' m → News h₀ L h' news → Q (.str (Str.ofString "refused") t) { s with heap := h', toks := tk' }) :
    wpAny (model prog w) (ktrTop dp un gd cn cs L a ccd cl outer) (call (.ref 142) [.ref f]) Q E s := by
  subst ho
  refine c_answer B F X T hk N hm XB TB ktsDicts_nil hd hu hcall fun h₀' h' tk' t T₂ F₂ N₂ _ _ _ _ => ?_
  obtain ⟨F₃, N₃⟩ := turn_nil T₂ F₂ N₂
  exact hret h' tk' t F₃ N₃
end
theorem codeC_0 {w : World} : CodeC w 128 0 24 60 := code_of_branch (d := 0) (per := 8) (room := 40) (fun h => absurd h (by decide)) (by decide) (by decide)
theorem codeB_1 {w : World} : CodeC w 135 1 51 80 := branch_of_code (d := 1) codeC_0 (by decide)
theorem codeC_1 {w : World} : CodeC w 128 1 153 100 := code_of_branch (d := 1) (fun _ => codeB_1) (by decide) (by decide)
theorem codeB_2 {w : World} : CodeC w 135 2 309 120 := branch_of_code (d := 2) codeC_1 (by decide)
end Mine

-- T17
namespace Mine
open PySem PySem.W PySem.Spec PySem.Calls PyProof.Rows
set_option maxRecDepth 100000
set_option maxHeartbeats 0
noncomputable abbrev lawQ : Str := (Str.ofString "law" ++ ".<locals>.") ++ "<lambda>"
noncomputable abbrev brQ : Str := (Str.ofString "_law_branches_right" ++ ".<locals>.") ++ "<lambda>"
/-- between the turns of the law's own loop -/
inductive LawJ (L I : Addr) (nw : List (Addr × Obj)) : Prop
  | mk (oF : Obj) (oE : Obj) (oC : Obj) (oB : Obj) (vF : Option Value) (vE : Option Value) (vC : Option Value) (vB : Option Value) (pR : Array Value) (pL : Array Value) (new : List (Addr × Obj)) : nw = (L + 1 + 1 + 1 + 1, oF) :: (L + 1 + 1 + 1, oE) :: (L + 1 + 1, oC) :: (L + 1, oB) :: (144, tabObj pR) :: (151, tabObj pL) :: new →
    oF.data = .cell vF →
    oE.data = .cell vE →
    oC.data = .cell vC →
    oB.data = .cell vB →
    TabOk lawQ pL new →
    TabOk brQ pR new →
    Fresh new [I, L + 1 + 1 + 1 + 1, L + 1 + 1 + 1, L + 1 + 1, L + 1, 144, 151] [] → LawJ L I nw

theorem PushesIn.mem {v : List (Addr × Obj)} {vs : List Value} {ps : List (Int × List Int × Int)} (H : PushesIn v vs ps) : ∀ x ∈ vs, ∃ tA lw b e t t' wv wn ws, x = .ref tA ∧ (tA, ({ cls := .type "tuple", data := .seq #[.int b t, .ref lw, .int e t'] } : Obj)) ∈ v ∧ (lw, listOf wv.toArray wn) ∈ v ∧ IntsAre wv ws ∧ (b, ws, e) ∈ ps := by
  induction H with
  | nil => exact fun x hx => nomatch hx
  | cons h1 h2 h3 _ ih =>
    intro x hx
    rcases List.mem_cons.mp hx with rfl | hx
    · exact ⟨_, _, _, _, _, _, _, _, _, rfl, h1, h2, h3, .head _⟩
    · refine q_hide fun G hG => ?_
      obtain ⟨tA, lw, b, e, t, t', wv, wn, ws, e1, e2, e3, e4, e5⟩ := ih x hx
      exact hG ⟨tA, lw, b, e, t, t', wv, wn, ws, e1, e2, e3, e4, .tail _ e5⟩
/-- between the turns of the loop over the pushes -/
inductive PuJ (L J I : Addr) (fixed v nw : List (Addr × Obj)) : Prop
  | mk (oF : Obj) (oB : Obj) (vF : Option Value) (vB : Option Value) (pL : Array Value) (new : List (Addr × Obj)) : nw = (L + 1 + 1 + 1 + 1, oF) :: (L + 1, oB) :: (151, tabObj pL) :: (fixed ++ (new ++ v)) →
    oF.data = .cell vF →
    oB.data = .cell vB →
    TabOk lawQ pL (new ++ v) →
    Fresh new [J, I, L + 1 + 1 + 1 + 1, L + 1 + 1 + 1, L + 1 + 1, L + 1, 144, 151] [] → PuJ L J I fixed v nw
inductive PuInv (h₀ : Heap) (L : Addr) (m₁ : Str → Option Value) (s : Shared) (I : Addr) (fixed v : List (Addr × Obj)) (J : Addr) (s₁ : Shared) : Prop
  | mk (nw : List (Addr × Obj)) (h : Heap) (tk : Nat) (u : Str → Option Value) : s₁ = { s with heap := h, toks := tk } →
    Fr h₀ L h (fun y => if [Str.ofString "words"].contains y then u y else m₁ y) →
    News h₀ L h nw →
    PuJ L J I fixed v nw →
    ((∀ q ∈ nw, q.1 ≠ J)) →
    J ≠ L →
    h₀.get? J = none → PuInv h₀ L m₁ s I fixed v J s₁

theorem words_map {u m₀ : Str → Option Value} {v : Option Value} : (fun y => if y = Str.ofString "words" then v else if [Str.ofString "words"].contains y then u y else m₀ y) = fun y => if [Str.ofString "words"].contains y then (if y = Str.ofString "words" then v else u y) else m₀ y := by
  funext y
  by_cases h : y = Str.ofString "words" <;> simp [h]
theorem pu_end {h₀ h₉ : Heap} {st : Shared} {L J I c' : Addr} {m₁ u : Str → Option Value} {wv : Option Value} {x1 x3 x4 x5 x6 x7 : Addr × Obj} {oc it oF oB : Obj} {vF vB : Option Value} {pL : Array Value} {fixed new v z1 l9 : List (Addr × Obj)} {tk : Nat}
    (F₉ : Fr h₀ L h₉ (fun y => if y = Str.ofString "words" then wv else if [Str.ofString "words"].contains y then u y else m₁ y))
    (N₉ : News h₀ L h₉ (x1 :: (c', oc) :: x3 :: x4 :: x5 :: x6 :: x7 :: (J, it) :: (L + 1 + 1 + 1 + 1, oF) :: (L + 1, oB) :: (151, tabObj pL) :: (fixed ++ z1)))
    (hz1 : new ++ v = z1) (dF : oF.data = .cell vF) (dB : oB.data = .cell vB) (K : TabOk lawQ pL ((c', oc) :: z1)) (hc : (c', oc) ∈ z1 ∨ ∀ q ∈ l9, q.1 < c')
    (hl9 : ∀ a ∈ [J, I, L + 1 + 1 + 1 + 1, L + 1 + 1 + 1, L + 1 + 1, L + 1, 144, 151], ∃ o, (a, o) ∈ l9)
    (hfr : Fresh new [J, I, L + 1 + 1 + 1 + 1, L + 1 + 1 + 1, L + 1 + 1, L + 1, 144, 151] [])
    (o1 : NeH (L + 1 + 1 + 1 + 1) J) (o2 : NeH (L + 1) J) (o3 : NeH 151 J) (o4 : ∀ q ∈ fixed, q.1 ≠ J) (o5 : ∀ q ∈ z1, q.1 ≠ J) :
    PuInv h₀ L m₁ st I fixed v J { st with heap := h₉, toks := tk } ∧ h₉.get? J = some it := by
  rw [words_map] at F₉
  subst hz1
  have NJ := N₉ _ (.tail _ (.tail _ (.tail _ (.tail _ (.tail _ (.tail _ (.tail _ (.head _))))))))
  refine ⟨?_, NJ.1⟩
  have key : ∀ new', (∀ q ∈ new' ++ v, q = (c', oc) ∨ q ∈ new ++ v) → TabOk lawQ pL (new' ++ v) → Fresh new' [J, I, L + 1 + 1 + 1 + 1, L + 1 + 1 + 1, L + 1 + 1, L + 1, 144, 151] [] → (∀ q ∈ new' ++ v, q.1 ≠ J) →
      PuInv h₀ L m₁ st I fixed v J { st with heap := h₉, toks := tk } := fun new' hn hK hF ho =>
    ⟨_, h₉, tk, _, rfl, F₉, (by
      refine List.forall_mem_cons.mpr ⟨N₉ _ (by k_mem), List.forall_mem_cons.mpr ⟨N₉ _ (by k_mem), List.forall_mem_cons.mpr ⟨N₉ _ (by k_mem), fun q hq => ?_⟩⟩⟩
      rcases List.mem_append.mp hq with hq | hq
      · refine N₉ q ?_
        iterate 11 refine List.Mem.tail _ ?_
        exact List.mem_append_left _ hq
      · refine (hn q hq).elim (fun e => e ▸ N₉ _ (.tail _ (.head _))) fun hq => N₉ q ?_
        iterate 11 refine List.Mem.tail _ ?_
        exact List.mem_append_right _ hq), ⟨oF, oB, vF, vB, pL, new', rfl, dF, dB, hK, hF⟩, (List.forall_mem_cons.mpr ⟨o1, List.forall_mem_cons.mpr ⟨o2, List.forall_mem_cons.mpr ⟨o3, fun q hq => (List.mem_append.mp hq).elim (o4 q) (ho q)⟩⟩⟩), NJ.2.1, NJ.2.2⟩
  rcases hc with hc | hc
  · exact key new (fun q hq => .inr hq) (K.mono fun q hq => (List.mem_cons.mp hq).elim (fun e => e ▸ hc) id) hfr o5
  · have hc' : ∀ a ∈ [J, I, L + 1 + 1 + 1 + 1, L + 1 + 1 + 1, L + 1 + 1, L + 1, 144, 151], c' ≠ a := fun a ha => by
      obtain ⟨o, ho⟩ := hl9 a ha
      exact Ne.symm (Nat.ne_of_lt (hc (a, o) ho))
    refine key ((c', oc) :: new) (fun q hq => (List.mem_cons.mp hq).imp id id) K (Fresh.cons hc' (fun q hq => nomatch hq) hfr) ?_
    intro q hq
    rcases List.mem_cons.mp hq with rfl | hq
    · exact hc' J (.head _)
    · exact o5 q hq
end Mine

-- T18
namespace Mine
open PySem PySem.W PySem.Spec PySem.Calls PyProof.Rows
set_option maxRecDepth 100000
set_option maxHeartbeats 0

theorem TabOk.restrict {qual : Str} {ps : Array Value} {z z' : List (Addr × Obj)} (h : TabOk qual ps z) (hz : ∀ p ∈ z, p ∈ z' ∨ ∀ vs t, p.2.data = .fields vs → vs[1]? = some (.str qual t) → False) : TabOk qual ps z' :=
  ⟨h.1, fun pos v e => by
    obtain ⟨c', oc, vs, t, e1, e2, e3, e4⟩ := h.2 pos v e
    rcases hz _ e2 with q | q
    · exact ⟨c', oc, vs, t, e1, q, e3, e4⟩
    · exact (q vs t e3 e4).elim⟩
theorem tab_no {qual q' : Str} {pL : Array Value} {z : List (Addr × Obj)} (h : TabOk q' pL z) : ∀ vs t, (tabObj pL).data = .fields vs → vs[1]? = some (.str qual t) → False := by
  intro vs t e1 e2
  have e1 : Data.fields pL = .fields vs := e1
  cases e1
  have h1 := h.1
  have e3 : pL.toList[1]? = some (.str qual t) := by simpa using e2
  match hp : pL.toList, h1 with
  | [], _ => rw [hp] at e3; cases e3
  | .int _ _ :: .int _ _ :: _ :: _, _ => rw [hp] at e3; cases e3
theorem cell_no {qual : Str} {o : Obj} {v : Option Value} (h : o.data = .cell v) : ∀ vs t, o.data = .fields vs → vs[1]? = some (.str qual t) → False := by
  intro vs t e; rw [h] at e; cases e
theorem itR_no {qual : Str} {a b : Int} : ∀ vs t, (itR a b).data = .fields vs → vs[1]? = some (.str qual t) → False := by
  intro vs t e1 e2
  cases e1
  cases e2
theorem list_no {qual : Str} {l : Array Value} {n : Nat} : ∀ vs t, (listOf l n).data = .fields vs → vs[1]? = some (.str qual t) → False := by
  intro vs t e1
  cases e1

/-- a loop over a range that turns one int by name -/
theorem range_loopA {prog : Program} {w : World} {A : Around} {E : Value → Shared → Prop} {s : Shared} {env : Env} {h₀ : Heap} {x y₀ : Str} {body : List Stmt} {Q : Flow → Shared → Prop} {I : Addr} {a : Int} {n : Nat} (stored : List Str) (m₀ : Str → Option Value) (J : Nat → Int → List (Addr × Obj) → Prop)
    (turn : ∀ i c tc nw (u : Str → Option Value) t h tk, i < n → J i c nw → Fr h₀ env.locals h (fun y => if y = x then some (.int (a + (i : Int)) t) else if y = y₀ then some (.int c tc) else if stored.contains y then u y else m₀ y) → News h₀ env.locals h ((I, itR (a + ((i + 1 : Nat) : Int)) ((n : Int) - ((i + 1 : Nat) : Int))) :: nw) →
      wpAny (model prog w) A (execs body env) (UnrPost h₀ env.locals { s with heap := h, toks := tk } I (itR (a + ((i + 1 : Nat) : Int)) ((n : Int) - ((i + 1 : Nat) : Int))) (fun m' nw' => (∀ z, z ≠ y₀ → stored.contains z = false → m' z = m₀ z) ∧ ∃ c' tc', m' y₀ = some (.int c' tc') ∧ J (i + 1) c' nw') Q) E { s with heap := h, toks := tk })
    (fin : ∀ c tc nw (u : Str → Option Value) h tk, J n c nw → Fr h₀ env.locals h (fun y => if y = y₀ then some (.int c tc) else if stored.contains y then u y else m₀ y) → News h₀ env.locals h nw → Q .next { s with heap := h, toks := tk }) :
    ∀ (k i : Nat) (m : Str → Option Value) (nw : List (Addr × Obj)), i + k = n → (∀ z, z ≠ y₀ → stored.contains z = false → m z = m₀ z) → (∃ c tc, m y₀ = some (.int c tc) ∧ J i c nw) → RangeRest prog w A E h₀ env x body Q s I a n k i m nw := by
  have em : ∀ (m : Str → Option Value) v, (∀ z, z ≠ y₀ → stored.contains z = false → m z = m₀ z) → m y₀ = v → m = fun y => if y = y₀ then v else if stored.contains y then m y else m₀ y := fun m v hm hv => by
    funext y
    by_cases hy : y = y₀
    · subst hy; simp [hv]
    · cases h : stored.contains y with
      | true => simp [hy]
      | false => simp [hy, hm y hy h]
  intro k
  induction k with
  | zero =>
    rintro i m nw e hm ⟨c, tc, hc, hJ⟩
    refine RangeRest.zero fun h tk F N => ?_
    have e' : i = n := by omega
    subst e'
    rw [em m _ hm hc] at F
    exact fin c tc nw m h tk hJ F N
  | succ k ih =>
    rintro i m nw e hm ⟨c, tc, hc, hJ⟩
    refine RangeRest.succ fun t h tk F N => ?_
    have F' : Fr h₀ env.locals h (fun y => if y = x then some (.int (a + (i : Int)) t) else if y = y₀ then some (.int c tc) else if stored.contains y then m y else m₀ y) := by
      have q : (fun y => if y = x then some (Value.int (a + (i : Int)) t) else if y = y₀ then some (.int c tc) else if stored.contains y then m y else m₀ y) = fun y => if y = x then some (Value.int (a + (i : Int)) t) else m y := by
        funext y; have := congrFun (em m _ hm hc) y; rw [← this]
      rw [q]; exact F
    refine wpAny_mono (turn i c tc nw m t h tk (by omega) hJ F' N) (fun f s₂ p => ?_) fun _ _ e => e
    have step : UnrEnd h₀ env.locals { s with heap := h, toks := tk } I (itR (a + ((i + 1 : Nat) : Int)) ((n : Int) - ((i + 1 : Nat) : Int))) (fun m' nw' => (∀ z, z ≠ y₀ → stored.contains z = false → m' z = m₀ z) ∧ ∃ c' tc', m' y₀ = some (.int c' tc') ∧ J (i + 1) c' nw') s₂ →
        UnrEnd h₀ env.locals { s with heap := h, toks := tk } I (itR (a + ((i + 1 : Nat) : Int)) ((n : Int) - ((i + 1 : Nat) : Int))) (RangeRest prog w A E h₀ env x body Q s I a n k (i + 1)) s₂ := by
      rintro ⟨h', tk', m', nw', e', F', N', ho, hm', hJ'⟩
      exact ⟨h', tk', m', nw', e', F', N', ho, ih (i + 1) m' nw' (by omega) hm' hJ'⟩
    cases f with
    | ret v => exact p
    | brk => exact p
    | next => exact step p
    | cont => exact step p

theorem lam_next {h₀ h₉ : Heap} {L c' : Addr} {x1 i f e c b x t : Addr × Obj} {oc : Obj} {pL : Array Value} {w l9 : List (Addr × Obj)} {as : List Addr}
    (N₉ : News h₀ L h₉ (x1 :: (c', oc) :: i :: f :: e :: c :: b :: x :: t :: w)) (hw : Fresh w as []) (hc : (c', oc) ∈ w ∨ ∀ q ∈ l9, q.1 < c') (hl9 : ∀ a ∈ as, ∃ o, (a, o) ∈ l9) (K : TabOk lawQ pL ((c', oc) :: w)) :
    ∃ w', News h₀ L h₉ (i :: f :: e :: c :: b :: x :: t :: w') ∧ Fresh w' as [] ∧ TabOk lawQ pL w' ∧ ∀ p ∈ w, p ∈ w' := by
  rcases hc with hc | hc
  · refine ⟨w, tailN (tailN N₉), hw, K.mono fun q hq => (List.mem_cons.mp hq).elim (fun e => e ▸ hc) id, fun p hp => hp⟩
  · refine ⟨(c', oc) :: w, ?_, Fresh.cons (fun a ha => ?_) (fun q hq => nomatch hq) hw, K, fun p hp => .tail _ hp⟩
    · repeat refine List.forall_mem_cons.mpr ⟨N₉ _ (by k_mem), ?_⟩
      exact fun q hq => N₉ q (by repeat (first | exact hq | refine List.Mem.tail _ ?_))
    · obtain ⟨o, ho⟩ := hl9 a ha
      exact Ne.symm (Nat.ne_of_lt (hc (a, o) ho))
end Mine

-- law
namespace Mine
open PySem PySem.W PySem.Spec PySem.Calls PyProof.Rows
set_option maxRecDepth 100000
set_option maxHeartbeats 0

def Stg : Prop := True
/-- where the law ends: True, its tables of lambdas in the ledger -/
def LawEnd (h₀ : Heap) (L : Addr) (s : Shared) (f : Flow) (s' : Shared) : Prop :=
  ∃ m' psR psL h' tk' t, f = .ret (.bool true) ∧ s' = { s with heap := h', toks := tk' } ∧ Fr h₀ L h' m' ∧ News h₀ L h' [(144, tabObj psR), (151, tabObj psL)] ∧ t = True
theorem fr_plain {h₀ h : Heap} {L : Addr} {k : Str → Option NameKind} {n : Str} {v : Value} (F : Fr h₀ L h (bindL k [(n, v)] fun _ => none)) (hk : k n = some .local) : Fr h₀ L h (fun y => if y = n then some v else none) := by
  have e : (bindL k [(n, v)] fun _ => none) = fun y => if y = n then some v else none := by
    simp only [bindL, hk, if_true]
  exact e ▸ F
theorem cell_plain {o : Obj} {v : Option Value} (h : o.data = .cell v) (e : v = none) : o.data = .cell none := e ▸ h
theorem law_goal {M : Model} {A A' : Around} {env : Env} {body : List Stmt} {Q : Flow → Shared → Prop} {Q₁ Q₂ : Value → Shared → Prop} {h₀ : Heap} {L : Addr} {s : Shared} {m : Str → Option Value} (_F : Fr h₀ L s.heap m)
    (h : wpAny M A (execs body env) (LawEnd h₀ L s) (fun _ _ => False) s)
    (hq : ∀ m' psR psL h' tk', Fr h₀ L h' m' → News h₀ L h' [(144, tabObj psR), (151, tabObj psL)] → Q (.ret (.bool true)) { s with heap := h', toks := tk' }) :
    wpAny M A (execs body env) Q (fun e s' => wpAny M A' (leaving env e) (fun _ s'' => Q₁ e s'') (fun e' s'' => Q₂ e' s'') s') s :=
  wpAny_mono h (fun f s' ⟨m', psR, psL, h', tk', t, e1, e2, F, N, _⟩ => by subst e1 e2; exact hq m' psR psL h' tk' F N) fun e s' q => q.elim


theorem blk {P : Prop} (h : P) : P := h
theorem hideJ {P : Prop} (h : ∀ G : Prop, (P → G) → G) : P := h P id
theorem tail17 {h₀ h : Heap} {L : Addr} {x1 x2 x3 x4 x5 x6 x7 x8 x9 x10 x11 x12 x13 x14 x15 x16 x17 : Addr × Obj} {z : List (Addr × Obj)} (N : News h₀ L h (x1 :: x2 :: x3 :: x4 :: x5 :: x6 :: x7 :: x8 :: x9 :: x10 :: x11 :: x12 :: x13 :: x14 :: x15 :: x16 :: x17 :: z)) : News h₀ L h z :=
  news_sub N fun _ hp => .tail _ (.tail _ (.tail _ (.tail _ (.tail _ (.tail _ (.tail _ (.tail _ (.tail _ (.tail _ (.tail _ (.tail _ (.tail _ (.tail _ (.tail _ (.tail _ (.tail _ hp))))))))))))))))
theorem all7 {P : Addr → Prop} {a1 a2 a3 a4 a5 a6 a7 : Addr} (h1 : P a1) (h2 : P a2) (h3 : P a3) (h4 : P a4) (h5 : P a5) (h6 : P a6) (h7 : P a7) : ∀ a ∈ [a1, a2, a3, a4, a5, a6, a7], P a :=
  List.forall_mem_cons.mpr ⟨h1, List.forall_mem_cons.mpr ⟨h2, List.forall_mem_cons.mpr ⟨h3, List.forall_mem_cons.mpr ⟨h4, List.forall_mem_cons.mpr ⟨h5, List.forall_mem_cons.mpr ⟨h6, List.forall_mem_cons.mpr ⟨h7, fun _ h => nomatch h⟩⟩⟩⟩⟩⟩⟩
theorem all8 {P : Addr → Prop} {a a1 a2 a3 a4 a5 a6 a7 : Addr} (h : P a) (h1 : P a1) (h2 : P a2) (h3 : P a3) (h4 : P a4) (h5 : P a5) (h6 : P a6) (h7 : P a7) : ∀ x ∈ [a, a1, a2, a3, a4, a5, a6, a7], P x :=
  List.forall_mem_cons.mpr ⟨h, all7 h1 h2 h3 h4 h5 h6 h7⟩
theorem off6 {x : Addr} {a1 a2 a3 a4 a5 a6 : Addr × Obj} {w : List (Addr × Obj)} (h1 : NeH a1.1 x) (h2 : NeH a2.1 x) (h3 : NeH a3.1 x) (h4 : NeH a4.1 x) (h5 : NeH a5.1 x) (h6 : NeH a6.1 x) (h7 : ∀ p ∈ w, p.1 ≠ x) : ∀ p ∈ a1 :: a2 :: a3 :: a4 :: a5 :: a6 :: w, p.1 ≠ x :=
  List.forall_mem_cons.mpr ⟨h1, List.forall_mem_cons.mpr ⟨h2, List.forall_mem_cons.mpr ⟨h3, List.forall_mem_cons.mpr ⟨h4, List.forall_mem_cons.mpr ⟨h5, List.forall_mem_cons.mpr ⟨h6, h7⟩⟩⟩⟩⟩⟩
theorem off7 {x : Addr} {a1 a2 a3 a4 a5 a6 a7 : Addr × Obj} {w : List (Addr × Obj)} (h1 : NeH a1.1 x) (h2 : NeH a2.1 x) (h3 : NeH a3.1 x) (h4 : NeH a4.1 x) (h5 : NeH a5.1 x) (h6 : NeH a6.1 x) (h : NeH a7.1 x) (h7 : ∀ p ∈ w, p.1 ≠ x) : ∀ p ∈ a1 :: a2 :: a3 :: a4 :: a5 :: a6 :: a7 :: w, p.1 ≠ x :=
  off6 h1 h2 h3 h4 h5 h6 (List.forall_mem_cons.mpr ⟨h, h7⟩)
theorem newListJ {M : Model} {A : Around} {h₀ : Heap} {L : Addr} {m : Str → Option Value} {news : List (Addr × Obj)} {s : Shared} {E : Value → Shared → Prop} {ns : List Int} {vs : List Value} {Q : Value → Shared → Prop} (hv : IntsAre vs ns) (F : Fr h₀ L s.heap m) (N : News h₀ L s.heap news)
    (h : ∀ vs' l h', IntsAre vs' ns → Fr h₀ L h' m → News h₀ L h' ((l, listOf vs'.toArray 0) :: news) → (∀ p ∈ news, p.1 < l) → Q (.ref l) { s with heap := h' }) (hsz : vs.length ≤ sizeLine) : wpAny M A (newList vs) Q E s :=
  newList_K F N (fun l h' => h vs l h' hv) hsz
theorem ne_law {L : Nat} (h : 144 < L ∧ 151 < L) : NeH (L + 1) (L + 1 + 1) ∧ NeH (L + 1) (L + 1 + 1 + 1) ∧ NeH (L + 1) (L + 1 + 1 + 1 + 1) ∧ NeH (L + 1 + 1) (L + 1 + 1 + 1) ∧ NeH (L + 1 + 1) (L + 1 + 1 + 1 + 1) ∧ NeH (L + 1 + 1 + 1) (L + 1 + 1 + 1 + 1) ∧
    NeH 144 (L + 1) ∧ NeH 144 (L + 1 + 1) ∧ NeH 144 (L + 1 + 1 + 1) ∧ NeH 144 (L + 1 + 1 + 1 + 1) ∧ NeH 151 (L + 1) ∧ NeH 151 (L + 1 + 1) ∧ NeH 151 (L + 1 + 1 + 1) ∧ NeH 151 (L + 1 + 1 + 1 + 1) ∧ NeH 144 151 := by
  unfold NeH; refine ⟨?_, ?_, ?_, ?_, ?_, ?_, ?_, ?_, ?_, ?_, ?_, ?_, ?_, ?_, ?_⟩ <;> omega

theorem perm8 {h₀ h : Heap} {L : Addr} {f c x1 x2 x3 x4 x5 x6 : Addr × Obj} (N : News h₀ L h [f, c, x1, x2, x3, x4, x5, x6]) : News h₀ L h [x1, x2, x3, x4, x5, x6, c] := by
  repeat refine List.forall_mem_cons.mpr ⟨N _ (by k_mem), ?_⟩
  exact fun q hq => nomatch hq
theorem permL {h₀ h : Heap} {L : Addr} {D b p n c s : Addr × Obj} {z : List (Addr × Obj)} (N : News h₀ L h (D :: b :: p :: n :: c :: s :: z)) : News h₀ L h (s :: c :: p :: b :: n :: z) := by
  repeat refine List.forall_mem_cons.mpr ⟨N _ (by k_mem), ?_⟩
  exact fun q hq => N q (by repeat (first | exact hq | refine List.Mem.tail _ ?_))
theorem ps_app {ks t : List Int} {ps : List (Int × List Int × Int)} (h : ∀ x ∈ ps, PushAt ks x) : ∀ x ∈ ps, PushAt (ks ++ t) x := fun x hx => (h x hx).app
theorem bs_app {ks t : List Int} {bs : List (Int × Option Int × Int)} (h : ∀ x ∈ bs, BranchAt ks x) : ∀ x ∈ bs, BranchAt (ks ++ t) x := fun x hx => (h x hx).app
theorem fwd {α : Type} {a b : List α} {P : α → Prop} (h : ∀ x ∈ a, P x) (h' : ∀ x ∈ b, P x) : ∀ x ∈ a ++ b, P x := fun x hx => (List.mem_append.mp hx).elim (h x) (h' x)
theorem apart7 {new8 new9 new : List (Addr × Obj)} {as : List Addr} {U : List (Addr × Obj)} {a : Addr} {o : Obj} (h : Fresh new8 as (U ++ (new9 ++ new))) (h9 : Fresh new9 as (U ++ new)) (hU : (a, o) ∈ U) (hn : ∀ p ∈ new, p.1 ≠ a) : ∀ p ∈ new8 ++ (new9 ++ new), p.1 ≠ a :=
  fwd (fun p hp => (h p hp).2 (a, o) (List.mem_append_left _ hU)) (fwd (fun p hp => (h9 p hp).2 (a, o) (List.mem_append_left _ hU)) hn)
theorem in_octets {s : List Int} (h : Seg s) : KBa.In (44 :: s ++ tailL) := fun k hk => by
  rcases List.mem_append.mp hk with hk | hk
  · rcases List.mem_cons.mp hk with rfl | hk
    · decide
    · exact h.flat.octets k hk
  · exact (by decide : ∀ k ∈ tailL, 0 ≤ k ∧ k < 256) k hk
theorem permM {h₀ h : Heap} {L : Addr} {D l s c p b n i f e cc bb x y : Addr × Obj} {z : List (Addr × Obj)} (N : News h₀ L h (D :: l :: s :: c :: p :: b :: n :: i :: f :: e :: cc :: bb :: x :: y :: z)) : News h₀ L h (i :: f :: e :: cc :: bb :: x :: y :: n :: p :: b :: z) := by
  repeat refine List.forall_mem_cons.mpr ⟨N _ (by k_mem), ?_⟩
  exact fun q hq => N q (by repeat (first | exact hq | refine List.Mem.tail _ ?_))
theorem permP {h₀ h : Heap} {L : Addr} {i f e cc bb x y n p b : Addr × Obj} {z : List (Addr × Obj)} (N : News h₀ L h (i :: f :: e :: cc :: bb :: x :: y :: n :: p :: b :: z)) : News h₀ L h (f :: bb :: y :: i :: e :: cc :: x :: n :: p :: b :: z) := by
  repeat refine List.forall_mem_cons.mpr ⟨N _ (by k_mem), ?_⟩
  exact fun q hq => N q (by repeat (first | exact hq | refine List.Mem.tail _ ?_))

theorem permR {h₀ h : Heap} {L : Addr} {f b t i e c x n p bb : Addr × Obj} {z : List (Addr × Obj)} (N : News h₀ L h (f :: b :: t :: i :: e :: c :: x :: n :: p :: bb :: z)) : News h₀ L h (x :: n :: bb :: (f :: b :: t :: i :: e :: c :: p :: z)) := by
  repeat refine List.forall_mem_cons.mpr ⟨N _ (by k_mem), ?_⟩
  exact fun q hq => N q (by repeat (first | exact hq | refine List.Mem.tail _ ?_))
theorem permS {h₀ h : Heap} {L : Addr} {f b t i e c x n p bb : Addr × Obj} {w z : List (Addr × Obj)} (N : News h₀ L h (x :: n :: bb :: (w ++ (f :: b :: t :: i :: e :: c :: p :: z)))) : News h₀ L h (i :: f :: e :: c :: b :: x :: t :: (w ++ z)) := by
  repeat refine List.forall_mem_cons.mpr ⟨N _ (by first | k_mem | (repeat (first | exact List.mem_append_right _ (by k_mem) | refine List.Mem.tail _ ?_))), ?_⟩
  exact fun q hq => N q (.tail _ (.tail _ (.tail _ ((List.mem_append.mp hq).elim (fun h => List.mem_append_left _ h) fun h => List.mem_append_right _ (.tail _ (.tail _ (.tail _ (.tail _ (.tail _ (.tail _ (.tail _ h)))))))))))








theorem lawHolds : PySem.Challenge.rw_on0226_01.Holds := Mine.hd (by
  w_top off
  k_with_none
  k_with "subscriptTail" => (k_here; (with_reducible show wpAny _ _ (subscriptTail _ _ (Value.ref _) (Value.str _ _)) _ _ _); k_dflt (refine kda_item (knd := PySem.strKind _ _) (by k_asm) (by k_mem) (by assumption) (strKind_is _ _ _ _) (by rfl) ?_))
  k_with "leaving ref" => (k_here; first | (k_dflt (refine' leave_onG rfl ?K ?F ?R ?U ?_; (case R => assumption); (case K => assumption); (case F => assumption); (case U => assumption)); intro _ _ _) | (k_dflt (refine' leave_first ?K ?F ?N ?ne ?_; (case K => assumption); (case F => k_asm); (case N => k_asm); (case ne => k_asm)); intro _ _ _))
  k_with "eval Lambda" => (k_here; (k_dflt (refine' kla_eval ?d0 ?_; (case d0 => exact rfl))); (k_dflt (refine' lam_any ?F ?N ?T ?C ?cd ?U ?K ?hz ?cl ?_; (case F => k_asm); (case N => k_asm); (case T => k_asm); (case cd => exact rfl); (case C => kn_code); (case U => k_updF); (case K => assumption); (case hz => (intro p9 hp9; repeat (first | exact hp9 | refine List.Mem.tail _ ?_))); (case cl => exact rfl); k_whole)); intro _ _ _ _ _ _ _ _ _ _ zqN' _ _ _ _ zql1; (try dsimp only at zqN'); (try k_lt zql1))
  k_with "callWith ref" => (k_here; k_dflt (refine' callWith_K ?k1 ?k2 ?_; (case k1 => k_asm); (case k2 => k_is); k_whole))
  k_with "ite" => first | with_reducible refine ite_tt ?_ | with_reducible refine ite_ff ?_
  k_with "call ref" => (k_here; (with_reducible show wpAny _ _ (call (Value.ref 142) _) _ _ _); refine hold ?_)
  k_with "call ref" => (k_here; (with_reducible show wpAny _ _ (call (Value.ref 74) _) _ _ _); first | (k_dflt (refine' c_pushed_ok ?B ?F ?X ?T ?hk ?N ?hd ?hu ?hb ?hl ?h1 ?h2 ?hx ?hfew (fun _ _ _ _ _ _ _ _ _ _ _ zql2 zql3 => ?_); (case B => k_asm); (case F => k_asm); (case X => k_asm); (case T => k_asm); (case hk => first | rfl | assumption); (case N => k_asm); (case hd => ktr_room); (case hu => ktr_units); (case hb => first | assumption | rfl); (case hl => first | decide | omega | (simp only [List.length_take]; omega)); (case h1 => omega); (case h2 => first | decide | omega); (case hx => first | assumption | exact (by decide)); (case hfew => first | assumption | exact few_of (by decide))); (have zql4 := kst_ltOf zql2); (have zql5 := kst_ltOf zql3); clear zql2 zql3; (try k_lt zql4); (try k_lt zql5)) | (k_dflt (refine' c_pushed_no ?B ?F ?X ?T ?hk ?N ?hd ?hu ?hb ?hl ?h1 ?h2 ?hx ?hfew ?_; (case B => k_asm); (case F => k_asm); (case X => k_asm); (case T => k_asm); (case hk => first | rfl | assumption); (case N => k_asm); (case hd => ktr_room); (case hu => ktr_units); (case hb => first | assumption | rfl); (case hl => first | decide | omega | (simp only [List.length_take]; omega)); (case h1 => omega); (case h2 => first | decide | omega | (simp only [List.length_take]; omega)); (case hx => assumption); (case hfew => assumption)); (try unfold Refuses); intro _ _ _ _ _ _ _) | (refine hold ?_))
  k_with "compareOp NotEq ref ref" => (k_here; (with_reducible show wpAny _ _ (compareOp CmpOp.NotEq (Value.ref _) (Value.ref _)) _ _ _); k_dflt (refine' ne_told ?N ?h1 ?h2 ?i1 ?h3 ?h4 ?i2 ?hu ?_; (case N => k_asm); (case h1 => k_mem); (case h2 => k_mem); (case i1 => assumption); (case h3 => k_mem); (case h4 => k_mem); (case i2 => first | assumption | exact .cons _ _ (.cons _ _ .nil) | exact .nil | l_ints); (case hu => first | ktr_units | decide)))
  k_with "call ref" => (k_here; (with_reducible show wpAny _ _ (call (Value.ref 81) _) _ _ _); first | (k_dflt (refine' c_behind_ok ?B ?F ?X ?T ?hk ?N ?hd ?hu ?hb ?hl ?h1 ?h2 ?hx (fun _ _ _ _ _ => ?_); (case B => k_asm); (case F => k_asm); (case X => k_asm); (case T => k_asm); (case hk => first | rfl | assumption); (case N => k_asm); (case hd => ktr_room); (case hu => ktr_units); (case hb => first | assumption | rfl); (case hl => first | decide | omega | (simp only [List.length_take]; omega)); (case h1 => omega); (case h2 => first | decide | omega | (simp only [List.length_take]; omega)); (case hx => assumption))) | ((k_dflt (refine' c_behind_no ?B ?F ?X ?T ?hk ?N ?hd ?hu ?hb ?hl ?h1 ?h2 ?hx ?_; (case B => k_asm); (case F => k_asm); (case X => k_asm); (case T => k_asm); (case hk => first | rfl | assumption); (case N => k_asm); (case hd => ktr_room); (case hu => ktr_units); (case hb => first | assumption | rfl); (case hl => first | decide | omega | (simp only [List.length_take]; omega)); (case h1 => omega); (case h2 => first | decide | omega | (simp only [List.length_take]; omega)); (case hx => assumption))); (try unfold Refuses); intro _ _ _ _ _ _ _) | (refine hold ?_))
  k_with "call ref" => (k_here; (with_reducible show wpAny _ _ (call (Value.ref 88) _) _ _ _); first | (k_dflt (refine' c_branch_ok ?B ?F ?X ?T ?hk ?N ?hd ?hu ?hb ?hl ?h1 ?h2 ?H (fun _ _ _ _ _ => ?_); (case B => k_asm); (case F => k_asm); (case X => k_asm); (case T => k_asm); (case hk => first | rfl | assumption); (case N => k_asm); (case hd => ktr_room); (case hu => ktr_units); (case hb => first | assumption | rfl); (case hl => first | decide | omega | (simp only [List.length_take]; omega)); (case h1 => omega); (case h2 => first | decide | omega | (simp only [List.length_take]; omega)); (case H => assumption))) | (refine hold ?_))
  k_with "call ref" => (k_here; (with_reducible show wpAny _ _ (call (Value.ref 95) _) _ _ _); first | (k_dflt (refine' c_fn_ok ?B ?F ?X ?T ?hk ?N ?hd ?hu ?hb ?hl ?h1 ?h2 ?H (fun _ _ _ _ _ => ?_); (case B => k_asm); (case F => k_asm); (case X => k_asm); (case T => k_asm); (case hk => first | rfl | assumption); (case N => k_asm); (case hd => ktr_room); (case hu => ktr_units); (case hb => first | assumption | rfl); (case hl => first | decide | omega | (simp only [List.length_take]; omega)); (case h1 => omega); (case h2 => first | decide | omega | (simp only [List.length_take]; omega)); (case H => assumption))) | ((k_dflt (refine' c_fn_no ?B ?F ?X ?T ?hk ?N ?hd ?hu ?hb ?hl ?h1 ?h2 ?H ?_; (case B => k_asm); (case F => k_asm); (case X => k_asm); (case T => k_asm); (case hk => first | rfl | assumption); (case N => k_asm); (case hd => ktr_room); (case hu => ktr_units); (case hb => first | assumption | rfl); (case hl => first | decide | omega | (simp only [List.length_take]; omega)); (case h1 => omega); (case h2 => first | decide | omega | (simp only [List.length_take]; omega)); (case H => assumption))); (try unfold Refuses); intro _ _ _ _ _ _ _) | (refine hold ?_))
  k_with "newList" => (k_here; (with_reducible show wpAny _ _ (newList (_ :: _ :: _ :: _ :: _ :: _)) _ _ _); k_dflt (refine' newListJ ?k0 ?k1 ?k2 ?_ ?z; (case k0 => l_ints); (case k1 => k_asm); (case k2 => k_asm); (case z => exact Nat.le_of_ble_eq_true rfl); k_whole); intro zqvs zql zqh zqhv zqF zqN zql1; (try k_lt zql1); (try k_sweep))
  k_with "call type:bytes" => (k_here; (with_reducible show wpAny _ _ (call (Value.type _) [Value.ref _]) _ _ _); k_dflt (refine' bytes_K ?F ?N ?l ?i ?r ?z ?h ?_; (case F => k_asm); (case N => k_asm); (case l => is_list); (case i => first | with_reducible assumption | l_ints); (case r => decide); (case z => (rw [IntsAre.length (by with_reducible assumption), sizeLine_eq]; decide)); (case h => with_unfolding_all rfl); k_whole); intro zqh zqt zqk zqF zqN zqB; clear zqB; (try dsimp only [List.map, List.cons_append, List.nil_append]); (try k_sweep))
  k_with "exec For NONE" => (k_here; refine hold ?_)
  k_with "pyIter ref" => (k_here; refine hold ?_)
  k_with "exec For Name Call cons nil" => (k_here; (rename Fr _ _ _ _ => zqlF'); (with_unfolding_all refine' For_invVF zqlF' ?k1 ?k2 ?_; (case k1 => exact rfl); (case k2 => exact rfl); k_whole))
  k_with "UnrEnd" => (k_here; refine hold ?_)
  k_with "call type:range" => ((rename Fr _ _ _ _ => zqF'); (rename News _ _ _ _ => zqN'); (with_unfolding_all refine range1_rows zqF' zqN' ?_; intro _ _ _ _ _ _ _ _ _))
  k_with "call ref" => ((k_here; (with_reducible show wpAny _ _ (call (Value.ref 102) _) _ _ _); k_dflt (refine' c_pool ?B ?F ?X ?T ?hk ?N ?hL ?hI ?hlay ?hlen ?hd ?hu ?h0 ?h2 (fun _ _ _ _ _ _ _ zql' => ?_); (case B => k_asm); (case F => k_asm); (case X => k_asm); (case T => k_asm); (case hk => rfl); (case N => k_asm); (case hL => assumption); (case hI => assumption); (case hlay => assumption); (case hlen => assumption); (case hd => ktr_room); (case hu => ktr_units); (case h0 => omega); (case h2 => omega)); (have zql2' := kst_ltOf zql'); clear zql'; (try k_lt zql2'); (revert zql2'; intro _)); (all_goals (try dsimp only)))
  k_with "call ref" => (k_here; (with_reducible show wpAny _ _ (call (Value.ref 135) _) _ _ _); refine hold ?_)
  k_with "call ref" => (k_here; (with_reducible show wpAny _ _ (call (Value.ref 128) _) _ _ _); refine hold ?_)
  k_with "exec For Tuple Subscript cons nil" => (k_here; (with_unfolding_all refine' wpAny_For ?_ (by intro _; rfl)); k_whole)
  k_with "call ref" => (k_here; (with_reducible show wpAny _ _ (call (Value.ref 149) _) _ _ _); refine hold ?_)
  k_with "eval Lambda" => (k_here; (have zqhS9 : Stg := by with_reducible assumption); clear zqhS9; refine hold ?_)
  k_with "execs cons" => (k_here; (with_reducible show wpAny _ _ _ _ _ _); k_fold)
  k_go0
  rename Fr _ _ _ _ => F₀
  rename News _ _ _ _ => N₀
  rename Below _ _ _ _ => B₀
  rename Top topProg _ _ _ _ _ => T₀
  rename Frag.In _ (ghostOf _ _) => X₀
  refine law_goal F₀ ?_ ?hq
  case hq =>
    clear F₀ N₀
    intro m' psR psL h' tk' F' N'
    try dsimp only
    try (show wpAny _ _ _ _ _ _; k_fold)
    k_steps
  rename IntsAre _ _ => hI
  rename PyData.layable0 _ = true => hlay
  rename (¬ _ < _) => hlen
  rename Heap.IsList _ _ _ => hL
  obtain ⟨cd1, cd2⟩ : CodeHd (ghostOf _ _) 148 144 ∧ CodeHd (ghostOf _ _) 155 151 := ⟨by assumption, by assumption⟩
  rename CellsAre _ _ _ => z1
  rename Heap.CodeRec _ _ _ => z2
  rename Dflts _ _ _ _ _ _ => z3
  rename TabsAt _ _ => z4
  rename TopW _ _ _ => z5
  rename TopE _ _ _ _ => z6
  rename Tables _ _ _ _ => z7
  rename Top _ _ _ _ _ (Shared.heap _) => z8
  rename Hook.says _ _ _ => z9
  rename (∀ P ∈ [144, 151], _) => y1
  rename Flt.MathXP _ _ _ => y2
  rename LooseAre _ _ _ => y3
  rename Ground _ _ _ _ _ _ _ _ _ => y4
  rename CodeHd _ (Prod.fst _) _ => y5; clear y5
  rename CodeHd _ (Prod.fst _) _ => y6; clear y6
  clear z1 z2 z3 z4 z5 z6 z7 z8 z9 y1 y2 y3 y4
  generalize ghostOf _ _ = h₀ at *
  rename (144 < _ ∧ _) => l0
  rename (Obj.data _ = Data.cell (bindC _ _ _ (Str.ofString "following"))) => dF
  rename (Obj.data _ = Data.cell (bindC _ _ _ (Str.ofString "end"))) => dE
  rename (Obj.data _ = Data.cell (bindC _ _ _ (Str.ofString "code"))) => dC
  rename (Obj.data _ = Data.cell (bindC _ _ _ (Str.ofString "begin"))) => dB
  generalize hLL : Array.size (Heap.objs _) = L at *
  clear hLL
  revert h₀ L
  refine blk ?_
  set_option tactic.hygienic false in intros
  with_unfolding_all (replace F₀ := fr_plain F₀ rfl)
  replace dF := cell_plain dF (by with_unfolding_all rfl)
  replace dE := cell_plain dE (by with_unfolding_all rfl)
  replace dC := cell_plain dC (by with_unfolding_all rfl)
  replace dB := cell_plain dB (by with_unfolding_all rfl)
  (try k_fold)
  have hbr : BrTo [88, 176, 89, 32, 89, 69] true 6 0 1 (some 5) := brF_to (by decide)
  have hK : TabOk ((Str.ofString "law" ++ ".<locals>.") ++ "<lambda>") #[] [] := TabOk.nil
  have hp1 : pushF [65, 2, 255, 255, 128, 0] 0 = some ([-1, -32768], 6) := by decide
  have hp2 : pushF [183, 1, 2, 3, 4, 5, 6, 7, 89] 0 = some ([1, 2, 3, 4, 5, 6, 7, 89], 9) := by decide
  have hp3 : pushF [64, 0] 0 = some ([], 2) := by decide
  have hfn : FnTo [137, 45] 0 0 none := .bad (by decide) rfl
  refine hideJ fun G9 hG9 => ?_
  obtain ⟨n1, n2, n3, n4, n5, n6, n7, n8, n9, n10, n11, n12, n13, n14, n15⟩ := ne_law l0
  refine hG9 ?_
  clear hG9
  clear l0
  have hS : Stg := trivial
  try (show wpAny _ _ _ _ _ _; k_fold)
  k_steps
  refine unhold ?_
  try dsimp only
  clear hS
  rename News _ _ _ _ => N₅
  replace N₅ := tail17 N₅
  rename Fr _ _ _ _ => F₅
  clear hbr hp1 hp2 hp3
  repeat (rename AllLt _ _ => zz; clear zz)
  repeat (rename (_ < _ ∧ _) => zz; clear zz)
  try (show wpAny _ _ _ _ _ _; k_fold)
  k_steps
  refine unhold ?_
  try dsimp only
  rename Fr _ _ _ _ => F₅
  rename News _ _ _ ((_, kla_obj _ _ _ _ _ _ _ _ _) :: _) => N₅
  rename TabOk _ _ (_ :: _) => K₅
  rename Obj.data _ = Data.fields _ => w1
  rename _ = some (Value.str _ _) => w2
  k_dflt (refine' c_answer0 B₀ F₅ X₀ T₀ rfl N₅ (.head _) rfl X₀ T₀ ?hd ?hu ?hcall ?hret)
  case hd => ktr_room
  case hu => ktr_units
  case hcall =>
    intro env₁ g₉ L₉ m₉ h₉ tk₉ Q₉ E₉ hf₉ hk₉ B₉ F₉ X₉ P₉ N₉ href
    refine wpAny_call ?_
    k_dflt (refine' kla_code ?k1 ?k2 ?k3 ?k4 ?k5 ?kA ?kF ?kK ?k6 ?k7 ?k8 ?k9 ?kB ?_ ?c2 ?c3 ?c4 ?c5; (case kA => exact rfl); (case kF => exact hf₉); (case kK => exact hk₉); (case k1 => exact B₉); (case k2 => exact F₉); (case k3 => exact X₉); (case k4 => exact N₉); (case k5 => exact P₉); (case k6 => exact List.Mem.head _); (case k7 => exact codeRec_news N₉ (List.Mem.tail _ (List.Mem.head _)) w1 w2); (case k8 => ktr_room); (case k9 => exact rfl); (case c5 => decide); (case kB => exact locs rfl); (case c2 => exact rfl); (case c3 => exact rfl); (case c4 => exact rfl); k_whole; intro g' L' h' FG' F' N' B' X' T'; (try dsimp only); (try k_fold))
    try (show wpAny _ _ _ _ _ _; k_fold)
    k_steps
    rename RaisedSN _ _ (env₁ :: _) _ _ _ _ => R₉
    exact href _ _ _ _ (by assumption) (by assumption) (RaisedSN.sub R₉ fun q hq => by repeat (first | exact hq | refine List.Mem.tail _ ?_))
  case hret =>
    intro h₉ tk₉ t₉ F₉ N₉
    try dsimp only
    try (show wpAny _ _ _ _ _ _; k_fold)
    k_steps
    refine unhold ?_
    try dsimp only
    rename Fr _ _ _ _ => fr; rename News _ _ _ _ => nw; rename IsRange _ _ _ _ _ _ _ _ => rg
    replace nw := perm8 nw
    obtain ⟨e, rg, e1, e2⟩ : ∃ e, IsRange _ _ 0 e 1 _ _ _ ∧ 1 ≤ e ∧ e ≤ 2 := ⟨_, rg, by (repeat' split) <;> omega, by (repeat' split) <;> omega⟩
    obtain ⟨r, rfl⟩ : ∃ r, e = 1 + r := ⟨e - 1, by omega⟩
    with_unfolding_all refine iter_rangeUnr (n := _) (by rfl) rg (small_one (by omega) (by omega) (by omega) (by omega)) (rangeSize_nn (by omega)) fr nw ?_
    intro I lt
    have I6 : NeH (L + 1 + 1 + 1 + 1) I ∧ NeH (L + 1 + 1 + 1) I ∧ NeH (L + 1 + 1) I ∧ NeH (L + 1) I ∧ NeH 144 I ∧ NeH 151 I :=
      ⟨Nat.ne_of_lt (lt _ (.head _)), Nat.ne_of_lt (lt _ (.tail _ (.head _))), Nat.ne_of_lt (lt _ (.tail _ (.tail _ (.head _)))), Nat.ne_of_lt (lt _ (.tail _ (.tail _ (.tail _ (.head _))))), Nat.ne_of_lt (lt _ (.tail _ (.tail _ (.tail _ (.tail _ (.head _)))))), Nat.ne_of_lt (lt _ (.tail _ (.tail _ (.tail _ (.tail _ (.tail _ (.head _)))))))⟩
    refine range_loop [Str.ofString "k", Str.ofString "source", Str.ofString "notes", Str.ofString "words", Str.ofString "at", Str.ofString "turn"] _ (fun _ nw => LawJ L I nw) ?turn ?fin _ 0 _ _ (Nat.zero_add _) (fun _ _ => rfl) ?start
    case start =>
      refine ⟨_, _, _, _, _, _, _, _, _, _, [(_, _)], rfl, dF, dE, dC, dB, K₅, TabOk.nil.mono (fun p hp => nomatch hp), ?_⟩
      refine Fresh.cons ?_ (fun q hq => nomatch hq) Fresh.nil
      rename (_ ∈ [] ∨ _) => hc'
      replace hc' := hc'.resolve_left (fun h => nomatch h)
      intro a ha
      simp only [List.mem_cons, List.not_mem_nil, or_false] at ha
      rcases ha with rfl | rfl | rfl | rfl | rfl | rfl | rfl
      · exact Nat.ne_of_lt (lt _ (.tail _ (.tail _ (.tail _ (.tail _ (.tail _ (.tail _ (.head _))))))))
      · exact Nat.ne_of_gt (hc' _ (.head _))
      · exact Nat.ne_of_gt (hc' _ (.tail _ (.head _)))
      · exact Nat.ne_of_gt (hc' _ (.tail _ (.tail _ (.head _))))
      · exact Nat.ne_of_gt (hc' _ (.tail _ (.tail _ (.tail _ (.head _)))))
      · exact Nat.ne_of_gt (hc' _ (.tail _ (.tail _ (.tail _ (.tail _ (.head _))))))
      · exact Nat.ne_of_gt (hc' _ (.tail _ (.tail _ (.tail _ (.tail _ (.tail _ (.head _)))))))
    case fin =>
      clear fr nw rg lt F₅ N₅
      rintro nw u' h tk ⟨oF, oE, oC, oB, vF, vE, vC, vB, pR, pL, new, rfl, _⟩ F' N'
      try dsimp only
      try (show wpAny _ _ _ _ _ _; k_fold)
      k_steps
      exact ⟨_, pR, pL, _, _, True, rfl, rfl, by assumption, news_sub N' (fun p hp => by
        rcases List.mem_cons.mp hp with rfl | hp
        · exact (.tail _ (.tail _ (.tail _ (.tail _ (.head _)))))
        · rw [List.mem_singleton.mp hp]; exact (.tail _ (.tail _ (.tail _ (.tail _ (.tail _ (.head _))))))), rfl⟩
    case turn =>
      clear fr nw rg lt F₅ N₅ dF dE dC dB K₅ w1 w2
      rintro i nw u' t h tk hi ⟨oF, oE, oC, oB, vF, vE, vC, vB, pR, pL, new, rfl, dF, dE, dC, dB, KL, KR, hfr⟩ F' N'
      replace F' : Fr h₀ L _ _ := F'
      replace N' : News h₀ L _ _ := N'
      try dsimp only
      have hi2 : i < 2 := by omega
      refine hideJ fun G9 hG9 => ?_
      obtain ⟨i1, i2, i3, i4, i5, i6⟩ := I6
      refine hG9 ?_
      clear hG9
      have J0 : ∀ p ∈ new, p.1 ≠ I := fun p hp => (hfr p hp).1 _ (.head _)
      have J1 : ∀ p ∈ new, p.1 ≠ L + 1 + 1 + 1 + 1 := fun p hp => (hfr p hp).1 _ (.tail _ (.head _))
      have J2 : ∀ p ∈ new, p.1 ≠ L + 1 + 1 + 1 := fun p hp => (hfr p hp).1 _ (.tail _ (.tail _ (.head _)))
      have J3 : ∀ p ∈ new, p.1 ≠ L + 1 + 1 := fun p hp => (hfr p hp).1 _ (.tail _ (.tail _ (.tail _ (.head _))))
      have J4 : ∀ p ∈ new, p.1 ≠ L + 1 := fun p hp => (hfr p hp).1 _ (.tail _ (.tail _ (.tail _ (.tail _ (.head _)))))
      have J5 : ∀ p ∈ new, p.1 ≠ 144 := fun p hp => (hfr p hp).1 _ (.tail _ (.tail _ (.tail _ (.tail _ (.tail _ (.head _))))))
      have J6 : ∀ p ∈ new, p.1 ≠ 151 := fun p hp => (hfr p hp).1 _ (.tail _ (.tail _ (.tail _ (.tail _ (.tail _ (.tail _ (.head _)))))))
      try (show wpAny _ _ _ _ _ _; k_fold)
      k_steps
      refine unhold ?_
      try dsimp only
      rename_i src sO hs lS cA _ lC nA _ _ _ _ lN pA _ lP bA _ lB _ nO hN D' _ _ _ _ _ oC' dC' _ _ hh F' N'
      have N1 := permL N'
      have ap : Apart src cA pA bA nA := ⟨Nat.ne_of_lt lC.1, Nat.ne_of_lt lP.2.2.1, Nat.ne_of_lt lB.2.2.2.1, Nat.ne_of_lt lP.2.1, Nat.ne_of_lt lB.2.2.1, Nat.ne_of_lt lB.1, Nat.ne_of_gt lN.2.1, Nat.ne_of_gt lN.1, Nat.ne_of_lt lP.1, Nat.ne_of_lt lB.2.1⟩
      have hN0 : NotesIs _ _ pA bA nO := hN
      obtain ⟨oI, hoI, N1, o1, o2, o3, o4⟩ : ∃ oI : Obj, oI = itR (0 + ((i + 1 : Nat) : Int)) (((1 + r).toNat : Int) - ((i + 1 : Nat) : Int)) ∧ News h₀ L hh (five src cA pA bA nA sO _ _ _ nO ([(I, oI), (L + 1 + 1 + 1 + 1, oF), (L + 1 + 1 + 1, oE), (L + 1 + 1, oC'), (L + 1, oB), (144, tabObj pR), (151, tabObj pL)] ++ new)) ∧ (∀ p ∈ [(I, oI), (L + 1 + 1 + 1 + 1, oF), (L + 1 + 1 + 1, oE), (L + 1 + 1, oC'), (L + 1, oB), (144, tabObj pR), (151, tabObj pL)] ++ new, p.1 ≠ src) ∧ (∀ p ∈ [(I, oI), (L + 1 + 1 + 1 + 1, oF), (L + 1 + 1 + 1, oE), (L + 1 + 1, oC'), (L + 1, oB), (144, tabObj pR), (151, tabObj pL)] ++ new, p.1 ≠ cA) ∧ (∀ p ∈ [(I, oI), (L + 1 + 1 + 1 + 1, oF), (L + 1 + 1 + 1, oE), (L + 1 + 1, oC'), (L + 1, oB), (144, tabObj pR), (151, tabObj pL)] ++ new, p.1 ≠ pA) ∧ (∀ p ∈ [(I, oI), (L + 1 + 1 + 1 + 1, oF), (L + 1 + 1 + 1, oE), (L + 1 + 1, oC'), (L + 1, oB), (144, tabObj pR), (151, tabObj pL)] ++ new, p.1 ≠ bA) := by
        refine ⟨_, rfl, N1, ?_, ?_, ?_, ?_⟩
        · exact ne_lt lS
        · exact ne_lt lC.2
        · exact ne_lt lP.2.2.2
        · exact ne_lt lB.2.2.2.2
      refine' codeB_2 ?B ?F ?X ?T ?hk N1 ?D hN0 ?hd ?hu ⟨o1, o2, o3, o4⟩ ap ?hroom ?hret
      case B => k_asm
      case F => k_asm
      case X => k_asm
      case T => k_asm
      case hk => rfl
      case D => exact ⟨hs, ⟨[.int 44 _], _, rfl, .cons _ _ .nil⟩, ⟨[], _, rfl, .nil⟩, ⟨[], _, rfl, .nil⟩, by simp, by simp⟩
      case hd => ktr_room
      case hu => ktr_units
      case hroom => decide
      case hret =>
        clear N1 N' F'
        intro h9 tk9 sO9 cO9 pO9 bO9 seg ps bs new9 F' N9 D9 hseg hsl hps hbs hfr9
        have q1 := off_new o1 hfr9 (.head _)
        have q2 := off_new o2 hfr9 (.tail _ (.head _))
        have q3 := off_new o3 hfr9 (.tail _ (.tail _ (.head _)))
        have q4 := off_new o4 hfr9 (.tail _ (.tail _ (.tail _ (.head _))))
        have N' := N9
        dsimp only [five, List.nil_append, List.cons_append] at N'
        try (show wpAny _ _ _ _ _ _; k_fold)
        k_steps
        refine unhold ?_
        try dsimp only
        refine' codeC_1 ?B ?F ?X ?T ?hk N9 D9 hN0 ?hd ?hu ⟨q1, q2, q3, q4⟩ ap ?hroom ?hret
        case B => k_asm
        case F => k_asm
        case X => k_asm
        case T => k_asm
        case hk => rfl
        case hd => ktr_room
        case hu => ktr_units
        case hroom => simp only [List.length_append, List.length_cons, List.length_nil]; omega
        case hret =>
          clear N' F' N9
          intro h8 tk8 sO8 cO8 pO8 bO8 seg8 ps8 bs8 new8 F' N8 D8 hseg8 hsl8 hps8 hbs8 hfr8
          refine hideJ fun G9 hG9 => ?_
          obtain ⟨_, ⟨cv, cn, rfl, hc⟩, ⟨pv, pn, rfl, hp⟩, ⟨bv, bn, rfl, hb⟩, hpl, hbl⟩ := D8
          refine hG9 ?_
          clear hG9
          have hsg : Seg (seg ++ seg8) := hseg.app hseg8
          have hP : ∀ x ∈ ps ++ ps8, PushAt (44 :: (seg ++ seg8) ++ tailL) x := by
            have q : ∀ x ∈ ps ++ ps8, PushAt ([44] ++ seg ++ seg8) x := fwd (ps_app hps) hps8
            have q' := ps_app (t := tailL) q
            simpa only [List.append_assoc, List.cons_append, List.nil_append] using q'
          have hB : ∀ x ∈ bs ++ bs8, BranchOk (44 :: (seg ++ seg8) ++ tailL) x := by
            have q : ∀ x ∈ bs ++ bs8, BranchAt ([44] ++ seg ++ seg8) x := fwd (bs_app hbs) hbs8
            have q' := bs_app (t := tailL) q
            intro x hx
            exact BranchAt.ok (by simpa only [List.append_assoc, List.cons_append, List.nil_append] using q' x hx)
          have hlen8 : (seg ++ seg8).length ≤ 462 := by rw [List.length_append]; omega
          have j0 := apart7 hfr8 hfr9 (.head _) J0
          have j1 := apart7 hfr8 hfr9 (.tail _ (.head _)) J1
          have j2 := apart7 hfr8 hfr9 (.tail _ (.tail _ (.head _))) J2
          have j3 := apart7 hfr8 hfr9 (.tail _ (.tail _ (.tail _ (.head _)))) J3
          have j4 := apart7 hfr8 hfr9 (.tail _ (.tail _ (.tail _ (.tail _ (.head _))))) J4
          have j5 := apart7 hfr8 hfr9 (.tail _ (.tail _ (.tail _ (.tail _ (.tail _ (.head _)))))) J5
          have j6 := apart7 hfr8 hfr9 (.tail _ (.tail _ (.tail _ (.tail _ (.tail _ (.tail _ (.head _))))))) J6
          have KL' : TabOk lawQ pL (new8 ++ (new9 ++ new)) := KL.mono fun p hp => List.mem_append_right _ (List.mem_append_right _ hp)
          have KR' : TabOk brQ pR (new8 ++ (new9 ++ new)) := KR.mono fun p hp => List.mem_append_right _ (List.mem_append_right _ hp)
          have hc' : IntsAre cv (44 :: (seg ++ seg8)) := by simpa only [List.append_assoc, List.cons_append, List.nil_append] using hc
          have hin := in_octets hsg
          rw [List.nil_append] at hp hb
          have f1 : ∀ p ∈ five src cA pA bA nA sO8 (listOf cv.toArray cn) (listOf pv.toArray pn) (listOf bv.toArray bn) nO [(I, oI), (L + 1 + 1 + 1 + 1, oF), (L + 1 + 1 + 1, oE), (L + 1 + 1, oC'), (L + 1, oB), (144, tabObj pR), (151, tabObj pL)], p.1 < src ∨ True := fun _ _ => .inr trivial
          clear f1 hc hpl hbl hps hps8 hbs hbs8 hseg hseg8 hsl hsl8 D9 J0 J1 J2 J3 J4 J5 J6 KL KR hfr8 hfr9 hfr q1 q2 q3 q4 o1 o2 o3 o4
          generalize new8 ++ (new9 ++ new) = v at *
          generalize seg ++ seg8 = sg at *
          generalize ps ++ ps8 = PS at *
          generalize bs ++ bs8 = BS at *
          revert v sg PS BS
          refine blk ?_
          set_option tactic.hygienic false in intros
          dsimp only [five, List.nil_append, List.cons_append] at N8
          try dsimp only
          have hcl := hc'.length
          simp only [List.length_cons] at hcl
          try (show wpAny _ _ _ _ _ _; k_fold)
          k_steps
          refine unhold ?_
          try dsimp only
          rename_i _ oE' dE' _ l' _ _ D' _ _ _ _ _ tb _ _ _ hh oC2 F' N' dC2
          replace N' := permM N'
          have g1 : NeH nA (L + 1 + 1 + 1 + 1) := Nat.ne_of_gt lN.2.2.2.1
          have g2 : NeH nA (L + 1) := Nat.ne_of_gt lN.2.2.2.2.2.2.1
          have g3 : NeH nA 144 := Nat.ne_of_gt lN.2.2.2.2.2.2.2.1
          have g4 : NeH nA 151 := Nat.ne_of_gt lN.2.2.2.2.2.2.2.2.1
          have g5 : NeH nA I := Nat.ne_of_gt lN.2.2.1
          have g6 : NeH pA (L + 1 + 1 + 1 + 1) := Nat.ne_of_gt lP.2.2.2.2.1
          have g7 : NeH pA (L + 1) := Nat.ne_of_gt lP.2.2.2.2.2.2.2.1
          have g8 : NeH pA 144 := Nat.ne_of_gt lP.2.2.2.2.2.2.2.2.1
          have g9 : NeH pA 151 := Nat.ne_of_gt lP.2.2.2.2.2.2.2.2.2.1
          have g10 : NeH pA I := Nat.ne_of_gt lP.2.2.2.1
          have g11 : NeH bA (L + 1 + 1 + 1 + 1) := Nat.ne_of_gt lB.2.2.2.2.2.1
          have g12 : NeH bA (L + 1) := Nat.ne_of_gt lB.2.2.2.2.2.2.2.2.1
          have g13 : NeH bA 144 := Nat.ne_of_gt lB.2.2.2.2.2.2.2.2.2.1
          have g14 : NeH bA 151 := Nat.ne_of_gt lB.2.2.2.2.2.2.2.2.2.2.1
          have g15 : NeH bA I := Nat.ne_of_gt lB.2.2.2.2.1
          have hKl : (44 :: sg ++ [45, 88, 45]).length ≤ 500 := by simp only [List.length_append, List.length_cons, List.length_nil]; omega
          have hbk : KBw.bInts (byteArr (44 :: sg ++ [45, 88, 45])) = 44 :: sg ++ [45, 88, 45] := KBa.ints_make hin
          clear lS lC lN lP lB dE dC hc' hcl hin ap
          try dsimp only
          refine hideJ fun G9 hG9 => ?_
          obtain ⟨i1, i2, i3, i4, i5, i6⟩ : NeH (L + 1 + 1 + 1 + 1) I ∧ NeH (L + 1 + 1 + 1) I ∧ NeH (L + 1 + 1) I ∧ NeH (L + 1) I ∧ NeH 144 I ∧ NeH 151 I := ⟨by assumption, by assumption, by assumption, by assumption, by assumption, by assumption⟩
          refine hG9 ?_
          clear hG9
          replace hP : ∀ x ∈ PS, PushAt (44 :: sg ++ [45, 88, 45]) x := hP
          replace hB : ∀ x ∈ BS, BranchOk (44 :: sg ++ [45, 88, 45]) x := hB
          have hel : (sg.length : Int) + 1 < ((44 :: sg ++ [45, 88, 45]).length : Int) := by simp only [List.length_append, List.length_cons, List.length_nil]; omega
          replace N' := permP N'
          rename Shared => st
          obtain ⟨m₁, hm₁, F'⟩ : ∃ m₁, m₁ = _ ∧ Fr h₀ L hh m₁ := ⟨_, rfl, F'⟩
          have fr' : Fr h₀ L hh (fun y => if [Str.ofString "words"].contains y then m₁ y else m₁ y) := by simpa only [ite_self] using F'
          refine list_states rfl ⟨_, (N' _ (.tail _ (.tail _ (.tail _ (.tail _ (.tail _ (.tail _ (.tail _ (.tail _ (.head _)))))))))).1, rfl, _, rfl⟩ (PuInv h₀ L m₁ st I [(I, oI), (L + 1 + 1 + 1, oE'), (L + 1 + 1, oC2), (144, tabObj pR), (nA, nO), (pA, listOf pv.toArray pn), (bA, listOf bv.toArray bn)] v) ?start ?keepI ?lst ?step ?fin ?pass
          case start =>
            refine ⟨_, _, _, _, rfl, fr'.push _, fun q hq => ⟨Heap.get?_push_of_some _ (N' q hq).1, (N' q hq).2⟩, ⟨oF, oB, _, _, pL, [], rfl, dF, dB, KL', Fresh.nil⟩, fun q hq => Nat.ne_of_lt (Heap.lt_size (N' q hq).1), Nat.ne_of_gt F'.ns.lt, next_is_new F'⟩
          case pass => passes_own
          case keepI =>
            rintro J s₁ h' tk' ⟨nw, h, tk₀, u, rfl, F₁, N₁, J₁, o₁, i₁, i₂⟩ hk
            exact ⟨nw, _, _, u, rfl, fr_turn F₁ i₂ i₁ hk, news_but N₁ o₁ hk, J₁, o₁, i₁, i₂⟩
          case lst =>
            rintro J s₁ ⟨nw, h, tk₀, u, rfl, F₁, N₁, ⟨oF, oB, vF, vB, pL, new, rfl, _⟩, o₁, i₁, i₂⟩
            exact ⟨_, (N₁ _ (.tail _ (.tail _ (.tail _ (.tail _ (.tail _ (.tail _ (.tail _ (.tail _ (.head _)))))))))).1, rfl, _, rfl⟩
          case step =>
            clear fr' N' F' KL' hm₁
            rintro J x s₁ it hx ⟨nw, h, tk₀, u, rfl, F₁, N₁, ⟨oF, oB, vF, vB, pL, new, rfl, dF, dB, KL, hfr⟩, o₁, i₁, i₂⟩ hit
            refine hideJ fun G9 hG9 => ?_
            obtain ⟨tA, lw, b, e, t, t', wv, wn, ws, rfl, htA, hlw, hws, hps⟩ := hp.mem x (by simpa using hx)
            refine hG9 ?_
            clear hG9
            have o₂ := o₁
            dsimp only [List.cons_append, List.nil_append] at N₁ o₁
            try dsimp only
            have P := hP _ hps
            generalize 44 :: sg ++ [45, 88, 45] = K at *
            revert K
            refine blk ?_
            set_option tactic.hygienic false in intros
            have e1' := P.tells
            have e2' := P.next
            have e3' := P.few
            refine hideJ fun G9 hG9 => ?_
            obtain ⟨y1, y2, y3, _, _⟩ := P.bounds
            refine hG9 ?_
            clear hG9
            have y4 := P.two
            refine hideJ fun G9 hG9 => ?_
            obtain ⟨pre, c1, c2, c3⟩ := P.cut
            refine hG9 ?_
            clear hG9
            dsimp only at e1' e2' e3' y1 y2 y3 y4 c1 c2 c3
            have hcp : clipAt K.length (e - 1) = (e - 1).toNat := clip_is (by omega) (by omega)
            rw [← c1, ← hcp] at c2 c3
            clear c1 P
            have a1 : NeH tA (L + 1 + 1 + 1 + 1) := j1 _ htA
            have a2 : NeH tA (L + 1) := j4 _ htA
            have a3 : NeH tA 151 := j6 _ htA
            have a4 : NeH lw (L + 1 + 1 + 1 + 1) := j1 _ hlw
            have a5 : NeH lw (L + 1) := j4 _ hlw
            have a6 : NeH lw 151 := j6 _ hlw
            have a7 : NeH (L + 1 + 1 + 1 + 1) J := o₁ _ (.head _)
            have a8 : NeH (L + 1) J := o₁ _ (.tail _ (.head _))
            have a9 : NeH 151 J := o₁ _ (.tail _ (.tail _ (.head _)))
            have b1 : ∀ p ∈ new ++ v, p.1 ≠ L + 1 + 1 + 1 + 1 := fwd (fun p hp => (hfr p hp).1 _ (.tail _ (.tail _ (.head _)))) j1
            have b2 : ∀ p ∈ new ++ v, p.1 ≠ L + 1 := fwd (fun p hp => (hfr p hp).1 _ (.tail _ (.tail _ (.tail _ (.tail _ (.tail _ (.head _))))))) j4
            have b3 : ∀ p ∈ new ++ v, p.1 ≠ 151 := fwd (fun p hp => (hfr p hp).1 _ (.tail _ (.tail _ (.tail _ (.tail _ (.tail _ (.tail _ (.tail _ (.head _))))))))) j6
            have N₂ : News h₀ L h ((J, it) :: _) := List.forall_mem_cons.mpr ⟨⟨hit, i₁, i₂⟩, N₁⟩
            have N₃ := news_more (x := (lw, _)) N₂ (.tail _ (.tail _ (.tail _ (.tail _ (.tail _ (.tail _ (.tail _ (.tail _ (.tail _ (.tail _ (.tail _ (List.mem_append_right _ hlw))))))))))))
            have N₄ := news_more (x := (tA, _)) N₃ (.tail _ (.tail _ (.tail _ (.tail _ (.tail _ (.tail _ (.tail _ (.tail _ (.tail _ (.tail _ (.tail _ (.tail _ (List.mem_append_right _ htA)))))))))))))
            clear N₁ N₂ N₃ hit
            generalize hz1 : new ++ v = z1 at N₄ b1 b2 b3 KL o₁
            revert z1
            refine blk ?_
            set_option tactic.hygienic false in intros
            try (show wpAny _ _ _ _ _ _; k_fold)
            k_steps
            · exfalso; omega
            refine unhold ?_
            try dsimp only
            rename Fr _ _ _ _ => F₅
            rename News _ _ _ ((_, kla_obj _ _ _ _ _ _ _ _ _) :: _) => N₅
            rename TabOk _ _ (_ :: _) => K₅
            rename Obj.data _ = Data.fields _ => w1
            rename _ = some (Value.str _ _) => w2
            k_dflt (refine' c_answer0 B₀ F₅ X₀ T₀ rfl N₅ (.head _) rfl X₀ T₀ ?hd ?hu ?hcall ?hret)
            case hd => ktr_room
            case hu => ktr_units
            case hcall =>
              intro env₁ g₉ L₉ m₉ h₉ tk₉ Q₉ E₉ hf₉ hk₉ B₉ F₉ X₉ P₉ N₉ href
              refine wpAny_call ?_
              k_dflt (refine' kla_code ?k1 ?k2 ?k3 ?k4 ?k5 ?kA ?kF ?kK ?k6 ?k7 ?k8 ?k9 ?kB ?_ ?c2 ?c3 ?c4 ?c5; (case kA => exact rfl); (case kF => exact hf₉); (case kK => exact hk₉); (case k1 => exact B₉); (case k2 => exact F₉); (case k3 => exact X₉); (case k4 => exact N₉); (case k5 => exact P₉); (case k6 => exact List.Mem.head _); (case k7 => exact codeRec_news N₉ (List.Mem.tail _ (List.Mem.head _)) w1 w2); (case k8 => ktr_room); (case k9 => exact rfl); (case c5 => decide); (case kB => exact locs rfl); (case c2 => exact rfl); (case c3 => exact rfl); (case c4 => exact rfl); k_whole; intro g' L' h' FG' F' N' B' X' T'; (try dsimp only); (try k_fold))
              try (show wpAny _ _ _ _ _ _; k_fold)
              k_steps
              rename RaisedSN _ _ (env₁ :: _) _ _ _ _ => R₉
              exact href _ _ _ _ (by assumption) (by assumption) (RaisedSN.sub R₉ fun q hq => by repeat (first | exact hq | refine List.Mem.tail _ ?_))
            case hret =>
              intro h₉ tk₉ t₉ F₉ N₉
              try dsimp only
              rename (_ ∈ z1 ∨ _) => hc'
              have o4 : ∀ q ∈ [(I, oI), (L + 1 + 1 + 1, oE'), (L + 1 + 1, oC2), (144, tabObj pR), (nA, nO), (pA, listOf pv.toArray pn), (bA, listOf bv.toArray bn)], q.1 ≠ J := fun q hq => o₂ q (.tail _ (.tail _ (.tail _ (List.mem_append_left _ hq))))
              have o5 : ∀ q ∈ z1, q.1 ≠ J := fun q hq => o₂ q (.tail _ (.tail _ (.tail _ (List.mem_append_right _ (hz1 ▸ hq)))))
              have R := fun tk => pu_end (st := st) (m₁ := m₁) (fixed := [(I, oI), (L + 1 + 1 + 1, oE'), (L + 1 + 1, oC2), (144, tabObj pR), (nA, nO), (pA, listOf pv.toArray pn), (bA, listOf bv.toArray bn)]) (tk := tk) F₉ N₉ hz1 (by assumption) (by assumption) K₅ hc' (all8 ⟨_, by k_mem⟩ ⟨_, by k_mem⟩ ⟨_, by k_mem⟩ ⟨_, by k_mem⟩ ⟨_, by k_mem⟩ ⟨_, by k_mem⟩ ⟨_, by k_mem⟩ ⟨_, by k_mem⟩) hfr a7 a8 a9 o4 o5
              try (show wpAny _ _ _ _ _ _; k_fold)
              k_steps
              · exact (R _).1
              · exact (R tk₉).2
          case fin =>
            subst hm₁
            clear fr' N' F' KL'
            rintro J s₁ ⟨nw, h, tk₀, u, rfl, F₁, N₁, ⟨oF, oB, vF, vB, pL, new, rfl, dF, dB, KL, hfr⟩, o₁, i₁, i₂⟩
            try dsimp only
            dsimp only [List.cons_append, List.nil_append] at N₁
            have hz144 : ∀ p ∈ (L + 1 + 1 + 1 + 1, oF) :: (L + 1, oB) :: (151, tabObj pL) :: (I, oI) :: (L + 1 + 1 + 1, oE') :: (L + 1 + 1, oC2) :: (pA, listOf pv.toArray pn) :: (new ++ v), p.1 ≠ 144 :=
              off7 (neH' (by assumption)) (neH' (by assumption)) (neH' (by assumption)) (neH' (by assumption)) (neH' (by assumption)) (neH' (by assumption)) (neH (by assumption)) fun p hp => fwd (fun p hp => (hfr p hp).1 _ (.tail _ (.tail _ (.tail _ (.tail _ (.tail _ (.tail _ (.head _)))))))) j5 p hp
            try (show wpAny _ _ _ _ _ _; k_fold)
            k_steps
            refine unhold ?_
            try dsimp only
            rename Fr _ _ _ _ => F₅
            rename News _ _ _ _ => N₅
            have N₆ := permR N₅
            k_dflt (refine' c_branches_right B₀ F₅ X₀ T₀ rfl cd1 X₀ T₀ rfl N₆ ?K hN0 ?hB hB hbk ?hl hz144 g3 g13 ?hd ?hu ?hret)
            case K => exact KR'.mono fun p hp => by simp only [List.mem_cons, List.mem_append, hp, or_true]
            case hB => exact hb.mono fun p hp => by simp only [List.mem_cons, List.mem_append, hp, or_true]
            case hl => omega
            case hd => ktr_room
            case hu => ktr_units
            case hret =>
              clear N₅ N₆ F₅
              intro h' tk' pR2 nx F₇ N₇ K₇ hfx
              have N' := permS N₇
              have hw : Fresh (nx ++ (new ++ v)) [I, L + 1 + 1 + 1 + 1, L + 1 + 1 + 1, L + 1 + 1, L + 1, 144, 151] [] := fun p hp => ⟨(List.mem_append.mp hp).elim
                (fun hp => all7 ((hfx p hp).2 _ (.tail _ (.tail _ (.tail _ (.head _))))) ((hfx p hp).2 _ (.head _)) ((hfx p hp).2 _ (.tail _ (.tail _ (.tail _ (.tail _ (.head _)))))) ((hfx p hp).2 _ (.tail _ (.tail _ (.tail _ (.tail _ (.tail _ (.head _))))))) ((hfx p hp).2 _ (.tail _ (.head _))) ((hfx p hp).1 _ (.head _)) ((hfx p hp).2 _ (.tail _ (.tail _ (.head _)))))
                fun hp => (List.mem_append.mp hp).elim (fun hp a ha => (hfr p hp).1 a (.tail _ ha)) fun hp => all7 (j0 p hp) (j1 p hp) (j2 p hp) (j3 p hp) (j4 p hp) (j5 p hp) (j6 p hp), fun q hq => nomatch hq⟩
              have KL2 : TabOk lawQ pL (nx ++ (new ++ v)) := KL.mono fun p hp => List.mem_append_right _ hp
              have KR2 : TabOk brQ pR2 (nx ++ (new ++ v)) := K₇.restrict fun p hp => by
                simp only [List.mem_append, List.mem_cons] at hp ⊢
                rcases hp with hp | hp | hp | hp | hp | hp | hp | hp | hp
                · exact .inl (.inl hp)
                · subst hp; exact .inr (cell_no dF)
                · subst hp; exact .inr (cell_no dB)
                · subst hp; exact .inr (tab_no KL)
                · subst hp; exact .inr (by rw [hoI]; exact itR_no)
                · subst hp; exact .inr (cell_no dE')
                · subst hp; exact .inr (cell_no dC2)
                · subst hp; exact .inr list_no
                · exact .inl (.inr hp)
              clear K₇ KR' KL N₇ hfx hz144 hB hb hP hp o₁ hfr j0 j1 j2 j3 j4 j5 j6 g1 g2 g3 g4 g5 g6 g7 g8 g9 g10 g11 g12 g13 g14 g15
              generalize nx ++ (new ++ v) = w at *
              revert w
              refine blk ?_
              set_option tactic.hygienic false in intros
              try (show wpAny _ _ _ _ _ _; k_fold)
              k_steps
              refine unhold ?_
              try dsimp only
              rename Fr _ _ _ _ => fr; rename News _ _ _ _ => nw; rename IsRange _ _ _ _ _ _ _ _ => rg
              obtain ⟨e, rg, he⟩ : ∃ e, IsRange _ _ 0 e 1 _ _ _ ∧ e = (sg.length : Int) + 4 := ⟨_, rg, by simp only [List.length_cons, List.length_nil]; omega⟩
              obtain ⟨r2, rfl⟩ : ∃ r2, e = 1 + r2 := ⟨e - 1, by omega⟩
              with_unfolding_all refine iter_rangeUnr (n := _) (by rfl) rg (small_one (by omega) (by omega) (by omega) (by omega)) (rangeSize_nn (by omega)) fr nw ?_
              intro I2 lt
              have off2 : ∀ p ∈ (I, oI) :: (L + 1 + 1 + 1 + 1, oF) :: (L + 1 + 1 + 1, oE') :: (L + 1 + 1, oC2) :: (L + 1, oB) :: (144, tabObj pR2) :: (151, tabObj pL) :: w, p.1 ≠ I2 := ne_lists lt
              have z1 : NeH (L + 1 + 1 + 1 + 1) I2 := off2 _ (.tail _ (.head _))
              have z2 : NeH (L + 1 + 1 + 1) I2 := off2 _ (.tail _ (.tail _ (.head _)))
              have z3 : NeH (L + 1 + 1) I2 := off2 _ (.tail _ (.tail _ (.tail _ (.head _))))
              have z4 : NeH (L + 1) I2 := off2 _ (.tail _ (.tail _ (.tail _ (.tail _ (.head _)))))
              have hst := AtIs.start hsg
              refine range_loopA (y₀ := Str.ofString "at") [Str.ofString "turn"] _ (fun i c nw => nw = (I, oI) :: (L + 1 + 1 + 1 + 1, oF) :: (L + 1 + 1 + 1, oE') :: (L + 1 + 1, oC2) :: (L + 1, oB) :: (144, tabObj pR2) :: (151, tabObj pL) :: w ∧ AtIs (44 :: sg) i c) ?turn ?fin _ 0 _ _ (Nat.zero_add _) (fun _ _ _ => rfl) ⟨_, _, rfl, rfl, hst⟩

              case turn =>
                clear fr nw rg lt
                rintro i2 c tc nw u2 t2 h2 tk2 hi2 ⟨rfl, hat⟩ F' N'
                replace F' : Fr h₀ L _ _ := F'
                replace N' : News h₀ L _ _ := N'
                have cb := hat.bounds
                simp only [List.length_cons] at cb
                try dsimp only
                by_cases hlt : c < ((sg.length + 1 : Nat) : Int)
                · obtain ⟨kk, Hf⟩ := hat.fn
                  obtain ⟨x, hx, hat'⟩ := hat.step hlt
                  replace Hf : FnTo (44 :: sg ++ [45, 88, 45]) kk c (some ((sg.length + 1 : Nat) : Int)) := Hf
                  replace hx : nextF (44 :: sg ++ [45, 88, 45]) c = some x := hx
                  try (show wpAny _ _ _ _ _ _; k_fold)
                  k_steps
                  · exfalso; omega
                  · exact unhold (UnrEnd.intro (by assumption) (by assumption) _ (fun p hp => hp) off2 ⟨by
                      intro z q1 q2
                      simp only [List.contains_cons, List.contains_nil, Bool.or_false, beq_eq_false_iff_ne, ne_eq] at q2
                      simp [q1, q2], _, _, rfl, rfl, hat'⟩)
                · have hat' := hat.stay hlt
                  try (show wpAny _ _ _ _ _ _; k_fold)
                  k_steps
                  exact unhold (UnrEnd.intro (by assumption) (by assumption) _ (fun p hp => hp) off2 ⟨by
                      intro z q1 q2
                      simp only [List.contains_cons, List.contains_nil, Bool.or_false, beq_eq_false_iff_ne, ne_eq] at q2
                      simp [q1, q2], _, _, rfl, rfl, hat'⟩)
              case fin =>
                clear fr nw rg lt hst
                rintro c tc nw u2 h2 tk2 ⟨rfl, hat⟩ F' N'
                replace F' : Fr h₀ L _ _ := F'
                replace N' : News h₀ L _ _ := N'
                have hce := hat.done (by simp only [List.length_cons]; omega)
                try dsimp only
                obtain rfl : c = ((sg.length + 1 : Nat) : Int) := hce
                subst hoI
                obtain ⟨kk, H0⟩ := fn_cut hsg
                have ht : List.take (min (sg.length + 1) (44 :: sg ++ [45, 88, 45]).length) (44 :: sg ++ [45, 88, 45]) = 44 :: sg := by
                  rw [Nat.min_eq_left (by omega)]
                  exact take_pre (by simp)
                have H1 : FnTo (List.take (min (sg.length + 1) (44 :: sg ++ [45, 88, 45]).length) (44 :: sg ++ [45, 88, 45])) kk 1 none := by rw [ht]; exact H0
                have H2 : FnTo (44 :: sg ++ [45, 88, 45]) 0 0 none := by rw [List.cons_append]; exact fn_in _
                have H3 : nextF (44 :: sg ++ [45, 88, 45]) ((44 :: sg ++ [45, 88, 45]).length : Int) = none := next_over (by omega)
                clear ht H0 hat he rg off2 z1 z2 z3 z4
                generalize 44 :: sg ++ [45, 88, 45] = K at *
                revert K
                refine blk ?_
                set_option tactic.hygienic false in intros
                have b151 : ∀ p ∈ w, p.1 ≠ 151 := fun p hp => (hw p hp).1 _ (.tail _ (.tail _ (.tail _ (.tail _ (.tail _ (.tail _ (.head _)))))))
                have KL3 := KL2
                clear KL2
                have KL2 := KL3
                clear KL3
                try (show wpAny _ _ _ _ _ _; k_fold)
                k_steps
                refine unhold ?_
                try dsimp only
                rename Fr _ _ _ _ => F₅
                rename News _ _ _ ((_, kla_obj _ _ _ _ _ _ _ _ _) :: _) => N₅
                rename TabOk _ _ (_ :: _) => K₅
                rename Obj.data _ = Data.fields _ => w1
                rename _ = some (Value.str _ _) => w2
                k_dflt (refine' c_answer0 B₀ F₅ X₀ T₀ rfl N₅ (.head _) rfl X₀ T₀ ?hd ?hu ?hcall ?hret)
                case hd => ktr_room
                case hu => ktr_units
                case hcall =>
                  intro env₁ g₉ L₉ m₉ h₉ tk₉ Q₉ E₉ hf₉ hk₉ B₉ F₉ X₉ P₉ N₉ href
                  refine wpAny_call ?_
                  k_dflt (refine' kla_code ?k1 ?k2 ?k3 ?k4 ?k5 ?kA ?kF ?kK ?k6 ?k7 ?k8 ?k9 ?kB ?_ ?c2 ?c3 ?c4 ?c5; (case kA => exact rfl); (case kF => exact hf₉); (case kK => exact hk₉); (case k1 => exact B₉); (case k2 => exact F₉); (case k3 => exact X₉); (case k4 => exact N₉); (case k5 => exact P₉); (case k6 => exact List.Mem.head _); (case k7 => exact codeRec_news N₉ (List.Mem.tail _ (List.Mem.head _)) w1 w2); (case k8 => ktr_room); (case k9 => exact rfl); (case c5 => decide); (case kB => exact locs rfl); (case c2 => exact rfl); (case c3 => exact rfl); (case c4 => exact rfl); k_whole; intro g' L' h' FG' F' N' B' X' T'; (try dsimp only); (try k_fold))
                  try (show wpAny _ _ _ _ _ _; k_fold)
                  k_steps
                  rename RaisedSN _ _ (env₁ :: _) _ _ _ _ => R₉
                  exact href _ _ _ _ (by assumption) (by assumption) (RaisedSN.sub R₉ fun q hq => by repeat (first | exact hq | refine List.Mem.tail _ ?_))
                case hret =>
                  intro h₉ tk₉ t₉ F₉ N₉
                  try dsimp only
                  rename (_ ∈ w ∨ _) => hc'
                  obtain ⟨w3, N', hw2, KL3, hs2⟩ := lam_next N₉ hw hc' (all7 ⟨_, by k_mem⟩ ⟨_, by k_mem⟩ ⟨_, by k_mem⟩ ⟨_, by k_mem⟩ ⟨_, by k_mem⟩ ⟨_, by k_mem⟩ ⟨_, by k_mem⟩) K₅
                  replace KR2 := KR2.mono hs2
                  have KL4 := KL3
                  clear KL3
                  clear N₉ N₅ F₅ hw hs2 hc' K₅ KL2 b151 w1 w2
                  rename Fresh w3 _ _ => hw
                  rename TabOk lawQ _ w3 => KL2
                  have b151 : ∀ p ∈ w3, p.1 ≠ 151 := fun p hp => (hw p hp).1 _ (.tail _ (.tail _ (.tail _ (.tail _ (.tail _ (.tail _ (.head _)))))))

                  try (show wpAny _ _ _ _ _ _; k_fold)
                  k_steps
                  · exfalso; omega
                  refine unhold ?_
                  try dsimp only
                  rename Fr _ _ _ _ => F₅
                  rename News _ _ _ ((_, kla_obj _ _ _ _ _ _ _ _ _) :: _) => N₅
                  rename TabOk _ _ (_ :: _) => K₅
                  rename Obj.data _ = Data.fields _ => w1
                  rename _ = some (Value.str _ _) => w2
                  k_dflt (refine' c_answer0 B₀ F₅ X₀ T₀ rfl N₅ (.head _) rfl X₀ T₀ ?hd ?hu ?hcall ?hret)
                  case hd => ktr_room
                  case hu => ktr_units
                  case hcall =>
                    intro env₁ g₉ L₉ m₉ h₉ tk₉ Q₉ E₉ hf₉ hk₉ B₉ F₉ X₉ P₉ N₉ href
                    refine wpAny_call ?_
                    k_dflt (refine' kla_code ?k1 ?k2 ?k3 ?k4 ?k5 ?kA ?kF ?kK ?k6 ?k7 ?k8 ?k9 ?kB ?_ ?c2 ?c3 ?c4 ?c5; (case kA => exact rfl); (case kF => exact hf₉); (case kK => exact hk₉); (case k1 => exact B₉); (case k2 => exact F₉); (case k3 => exact X₉); (case k4 => exact N₉); (case k5 => exact P₉); (case k6 => exact List.Mem.head _); (case k7 => exact codeRec_news N₉ (List.Mem.tail _ (List.Mem.head _)) w1 w2); (case k8 => ktr_room); (case k9 => exact rfl); (case c5 => decide); (case kB => exact locs rfl); (case c2 => exact rfl); (case c3 => exact rfl); (case c4 => exact rfl); k_whole; intro g' L' h' FG' F' N' B' X' T'; (try dsimp only); (try k_fold))
                    try (show wpAny _ _ _ _ _ _; k_fold)
                    k_steps
                    rename RaisedSN _ _ (env₁ :: _) _ _ _ _ => R₉
                    exact href _ _ _ _ (by assumption) (by assumption) (RaisedSN.sub R₉ fun q hq => by repeat (first | exact hq | refine List.Mem.tail _ ?_))
                  case hret =>
                    intro h₉ tk₉ t₉ F₉ N₉
                    try dsimp only
                    rename (_ ∈ w3 ∨ _) => hc'
                    obtain ⟨w4, N', hw2, KL3, hs2⟩ := lam_next N₉ hw hc' (all7 ⟨_, by k_mem⟩ ⟨_, by k_mem⟩ ⟨_, by k_mem⟩ ⟨_, by k_mem⟩ ⟨_, by k_mem⟩ ⟨_, by k_mem⟩ ⟨_, by k_mem⟩) K₅
                    replace KR2 := KR2.mono hs2
                    have KL4 := KL3
                    clear KL3
                    clear N₉ N₅ F₅ hw hs2 hc' K₅ KL2 b151 w1 w2
                    rename Fresh w4 _ _ => hw
                    rename TabOk lawQ _ w4 => KL2
                    have b151 : ∀ p ∈ w4, p.1 ≠ 151 := fun p hp => (hw p hp).1 _ (.tail _ (.tail _ (.tail _ (.tail _ (.tail _ (.tail _ (.head _)))))))
                    try (show wpAny _ _ _ _ _ _; k_fold)
                    k_steps
                    refine unhold ?_
                    try dsimp only
                    rename Fr _ _ _ _ => F₅
                    rename News _ _ _ ((_, kla_obj _ _ _ _ _ _ _ _ _) :: _) => N₅
                    rename TabOk _ _ (_ :: _) => K₅
                    rename Obj.data _ = Data.fields _ => w1
                    rename _ = some (Value.str _ _) => w2
                    k_dflt (refine' c_answer0 B₀ F₅ X₀ T₀ rfl N₅ (.head _) rfl X₀ T₀ ?hd ?hu ?hcall ?hret)
                    case hd => ktr_room
                    case hu => ktr_units
                    case hcall =>
                      intro env₁ g₉ L₉ m₉ h₉ tk₉ Q₉ E₉ hf₉ hk₉ B₉ F₉ X₉ P₉ N₉ href
                      refine wpAny_call ?_
                      k_dflt (refine' kla_code ?k1 ?k2 ?k3 ?k4 ?k5 ?kA ?kF ?kK ?k6 ?k7 ?k8 ?k9 ?kB ?_ ?c2 ?c3 ?c4 ?c5; (case kA => exact rfl); (case kF => exact hf₉); (case kK => exact hk₉); (case k1 => exact B₉); (case k2 => exact F₉); (case k3 => exact X₉); (case k4 => exact N₉); (case k5 => exact P₉); (case k6 => exact List.Mem.head _); (case k7 => exact codeRec_news N₉ (List.Mem.tail _ (List.Mem.head _)) w1 w2); (case k8 => ktr_room); (case k9 => exact rfl); (case c5 => decide); (case kB => exact locs rfl); (case c2 => exact rfl); (case c3 => exact rfl); (case c4 => exact rfl); k_whole; intro g' L' h' FG' F' N' B' X' T'; (try dsimp only); (try k_fold))
                      try (show wpAny _ _ _ _ _ _; k_fold)
                      k_steps
                      rename RaisedSN _ _ (env₁ :: _) _ _ _ _ => R₉
                      exact href _ _ _ _ (by assumption) (by assumption) (RaisedSN.sub R₉ fun q hq => by repeat (first | exact hq | refine List.Mem.tail _ ?_))
                    case hret =>
                      intro h₉ tk₉ t₉ F₉ N₉
                      try dsimp only
                      rename (_ ∈ w4 ∨ _) => hc'
                      obtain ⟨w5, N', hw2, KL3, hs2⟩ := lam_next N₉ hw hc' (all7 ⟨_, by k_mem⟩ ⟨_, by k_mem⟩ ⟨_, by k_mem⟩ ⟨_, by k_mem⟩ ⟨_, by k_mem⟩ ⟨_, by k_mem⟩ ⟨_, by k_mem⟩) K₅
                      replace KR2 := KR2.mono hs2
                      have KL4 := KL3
                      clear KL3
                      clear N₉ N₅ F₅ hw hs2 hc' K₅ KL2 b151 w1 w2
                      rename Fresh w5 _ _ => hw
                      rename TabOk lawQ _ w5 => KL2
                      have b151 : ∀ p ∈ w5, p.1 ≠ 151 := fun p hp => (hw p hp).1 _ (.tail _ (.tail _ (.tail _ (.tail _ (.tail _ (.tail _ (.head _)))))))
                      try (show wpAny _ _ _ _ _ _; k_fold)
                      k_steps
                      refine unhold ?_
                      try dsimp only
                      have offI : ∀ (pq : Array Value), ∀ p ∈ (L + 1 + 1 + 1 + 1, oF) :: (L + 1 + 1 + 1, oE') :: (L + 1 + 1, oC2) :: (L + 1, oB) :: (144, tabObj pR2) :: (151, tabObj pq) :: w5, p.1 ≠ I :=
                        fun _ => off6 i1 i2 i3 i4 i5 i6 fun p hp => (hw p hp).1 _ (.head _)
                      exact UnrEnd.intro (by assumption) (by assumption) _ (fun p hp => hp) (offI _) ⟨by
                        intro z h3
                        simp only [List.contains_cons, List.contains_nil, Bool.or_false, Bool.or_eq_false_iff, beq_eq_false_iff_ne, ne_eq] at h3
                        simp [h3], oF, oE', oC2, oB, _, _, _, _, pR2, _, w5, rfl, dF, dE', dC2, dB, KL2, KR2, hw⟩)
end Mine

end
end
end
set_option maxRecDepth 100000 in
set_option maxHeartbeats 8000000 in
theorem PySem.Challenge.cw_on0226_01_holds : PySem.Challenge.rw_on0226_01.Holds := by
  exact Mine.lawHolds
