import PyProof.Rows.All
import Wide.All
import OpenK.AllK
import Wide.FinOn
import PySem.Challenge.RW_nt0538_01
open PySem PySem.W PyProof.Rows
set_option Elab.async false
set_option compiler.extract_closed false

namespace Mine
set_option maxRecDepth 100000 in
set_option maxHeartbeats 8000000 in
open_top hd for PySem.Challenge.rw_nt0538_01
theorem walk_plain : True := by
  w_top off
  trivial
local macro_rules | `(tactic| walk_at $s:str) => `(tactic| k_extra $(Lean.Syntax.mkStrLit ("my " ++ s.getString)))
local macro_rules | `(tactic| k_all) => `(tactic| k_extra "own k_all")
local macro_rules | `(tactic| k_ne) => `(tactic| k_extra "own k_ne")
local macro_rules | `(tactic| omega) => `(tactic| k_extra "own omega")
-- A1
theorem q_gt {a c : Nat} (h : a < c) : @Ne Nat c a := Nat.ne_of_gt h
theorem q_u1 {a : Nat} : a ≤ a + 1 := Nat.le_succ a
theorem q_u2 {a : Nat} : a ≤ a + 1 + 1 := Nat.le_succ_of_le q_u1
theorem q_u3 {a : Nat} : a ≤ a + 1 + 1 + 1 := Nat.le_succ_of_le q_u2
theorem q_u4 {a : Nat} : a ≤ a + 1 + 1 + 1 + 1 := Nat.le_succ_of_le q_u3
theorem q_u5 {a : Nat} : a ≤ a + 1 + 1 + 1 + 1 + 1 := Nat.le_succ_of_le q_u4
theorem q_u6 {a : Nat} : a ≤ a + 1 + 1 + 1 + 1 + 1 + 1 := Nat.le_succ_of_le q_u5
theorem q_u7 {a : Nat} : a ≤ a + 1 + 1 + 1 + 1 + 1 + 1 + 1 := Nat.le_succ_of_le q_u6
theorem q_room {a b c d n : Nat} (h : a + b < n) (hc : Nat.ble (c + d) b = true) : a + c + d < n :=
  Nat.lt_of_le_of_lt (by rw [Nat.add_assoc]; exact Nat.add_le_add_left (Nat.le_of_ble_eq_true hc) a) h
theorem q_room1 {a b c n : Nat} (h : a + b < n) (hc : Nat.ble c b = true) : a + c < n := Nat.lt_of_le_of_lt (Nat.add_le_add_left (Nat.le_of_ble_eq_true hc) a) h
theorem q_room0 {a b n : Nat} (h : a + b < n) : a < n := Nat.lt_of_le_of_lt (Nat.le_add_right a b) h
theorem q_i0 {i : Nat} : 0 ≤ 0 + (i : Int) := by omega
theorem q_ix {i l n a : Nat} (h : i < n) (e : l = a) (f : n = a) : 0 + (i : Int) < (l : Int) := by omega
theorem q_kl {k : Int} {l n a : Nat} (h : k < (n : Int)) (e : l = a) (f : n = a) : k < (l : Int) := by rw [e, ← f]; exact h
theorem q_ll {l k a : Nat} (e : l = a) (f : k = a) : l = k := e.trans f.symm
theorem q_le {l a c n : Nat} (e : l = a) (h : a ≤ c) (b : Nat.ble c n = true) : l ≤ n := by rw [e]; exact Nat.le_trans h (Nat.le_of_ble_eq_true b)
theorem q_nlo {n : Nat} : -2 ^ 62 ≤ (n : Int) := by omega
theorem q_nhi {n : Nat} (h : n ≤ 9) : (n : Int) < 2 ^ 62 := by omega
theorem q_lhi {l n : Nat} (e : l = n) (h : n ≤ 9) : l < 2 ^ 62 := by omega
theorem q_cnt {n : Nat} (h : n ≤ 9) : ((n : Int) - 0).toNat ≤ 16777216 := by omega
theorem q_t0 {n : Nat} : ((n : Int) - 0).toNat = n := by omega
theorem q_pos {v : Int} (h : 1 ≤ v) : 0 ≤ v := by omega
theorem q_blo {v c : Int} (h : 1 ≤ v ∧ v ≤ c) : -2 ^ 64 < v := by omega
theorem q_bhi {v : Int} (h : 1 ≤ v ∧ v ≤ 65535) : v < 2 ^ 64 := by omega
theorem q_ble {v c n : Int} (h : 1 ≤ v ∧ v ≤ c) (b : decide (c ≤ n) = true) : v ≤ n := Int.le_trans h.2 (of_decide_eq_true b)
theorem q_vlt {v c n : Int} (h : v < c) (b : decide (c ≤ n) = true) : v < n := Int.lt_of_lt_of_le h (of_decide_eq_true b)
theorem q_vle {v c n : Int} (h : v ≤ c) (b : decide (c < n) = true) : v < n := Int.lt_of_le_of_lt h (of_decide_eq_true b)
theorem q0 {q r : Prop} (h : q ∧ r) : q := h.1
theorem q1 {a q r : Prop} (h : a ∧ q ∧ r) : q := h.2.1
theorem q2 {a b q r : Prop} (h : a ∧ b ∧ q ∧ r) : q := h.2.2.1
theorem q3 {a b c q r : Prop} (h : a ∧ b ∧ c ∧ q ∧ r) : q := h.2.2.2.1
theorem q4 {a b c d q r : Prop} (h : a ∧ b ∧ c ∧ d ∧ q ∧ r) : q := h.2.2.2.2.1
theorem q5 {a b c d e q r : Prop} (h : a ∧ b ∧ c ∧ d ∧ e ∧ q ∧ r) : q := h.2.2.2.2.2.1
theorem q6 {a b c d e f q r : Prop} (h : a ∧ b ∧ c ∧ d ∧ e ∧ f ∧ q ∧ r) : q := h.2.2.2.2.2.2.1
theorem q7 {a b c d e f g q r : Prop} (h : a ∧ b ∧ c ∧ d ∧ e ∧ f ∧ g ∧ q ∧ r) : q := h.2.2.2.2.2.2.2.1
theorem q8 {a b c d e f g i q r : Prop} (h : a ∧ b ∧ c ∧ d ∧ e ∧ f ∧ g ∧ i ∧ q ∧ r) : q := h.2.2.2.2.2.2.2.2.1
theorem q9 {a b c d e f g i j q r : Prop} (h : a ∧ b ∧ c ∧ d ∧ e ∧ f ∧ g ∧ i ∧ j ∧ q ∧ r) : q := h.2.2.2.2.2.2.2.2.2.1

theorem fdiv_nn {a b : Int} (h : 0 ≤ a) (hb : 0 ≤ b) : 0 ≤ a.fdiv b := by
  rw [Int.fdiv_eq_ediv_of_nonneg a hb]; exact Int.ediv_nonneg h hb


theorem words_1 : True := by
  k_with_none
  k_with "own k_all" => (assumption)
  k_with "my subscriptTail Name Constant ref int" => (k_here; (with_reducible show wpAny _ _ (subscriptTail _ _ (Value.ref _) (Value.int _ _)) _ _ _); (with_unfolding_all refine' item_litK ?k1 ?k2 ?k3 ?k4 ?_ ?k6; (case k1 => is_list); (case k2 => decide); (case k3 => decide); (case k4 => rfl); (case k6 => with_unfolding_all rfl); k_whole))
  trivial
set_option maxRecDepth 100000 in
set_option maxHeartbeats 8000000 in
theorem take_ok {w : World} {p : Program} {loose : List Str} {mean : ExcName → Option Value} {mg mb : Str → Option Value}
    {dp un : Nat} {gd : Option (List Code)} {cn : Str} {cs : Scope} {a : Addr} {ccd : Value} {cl : List (Str × Addr)} {outer : List Env} {A₀ : Around} {base h₀ : Heap} {L : Addr} {m : Str → Option Value} {s : Shared} {Q E : Value → Shared → Prop}
    {src : Addr} {x y top : Int} {tx ty tt : Tok} {n : Nat} {rest : List (Addr × Obj)}
    (B : Below A₀ base outer h₀) (F : Fr h₀ L s.heap m) (X : (Mine.hd.heap_39 w.params).In h₀) (N : News h₀ L s.heap ((src, listOf #[.int x tx, .int y ty] n) :: rest)) (T : Top p loose mean mg mb h₀)
    (hk : cs.kind = .function) (hr : ∀ p ∈ rest, p.1 ≠ src) (hx : 0 ≤ x) (hy : 0 ≤ y) (hy2 : y < 2147483647) (ht : 0 < top) (ht2 : top < 1000000) (hd : dp + 1 < recursionLimit) (hu : un + 8 < cLine)
    (ret : ∀ v tv x' tx' y' ty' n' h' tk', Fr h₀ L h' m → News h₀ L h' ((src, listOf #[.int x' tx', .int y' ty'] n') :: rest) → 0 ≤ v → v < top → 0 ≤ x' → 0 ≤ y' → y' < 2147483647 →
      Q (.int v tv) { s with heap := h', toks := tk' }) :
    wpAny (model PySem.Challenge.rw_nt0538_01.row.prog w) (ktrTop dp un gd cn cs L a ccd cl outer) (call (.ref 124) [.ref src, .int top tt]) Q E s := by
  revert X; k_fill; intro X
  refine wpAny_call ?_
  k_dflt cell_enter
  k_steps
  · refine ret _ _ _ _ _ _ _ _ _ (by k_asm) (by k_asm) (fmod_lo _ ht) (fmod_hi _ ht) ?_ hy hy2
    exact fdiv_nn hx (by omega)
  · refine ret _ _ _ _ _ _ _ _ _ (by k_asm) (by k_asm) (fmod_lo _ ht) (fmod_hi _ ht) hx ?_ ?_
    · exact fmod_lo _ (by decide)
    · exact fmod_hi _ (by decide)
-- B1
theorem mem_swap {α : Type} {x p : α} {pre post : List α} : p ∈ x :: (pre ++ post) ↔ p ∈ pre ++ x :: post := by
  simp only [List.mem_cons, List.mem_append]
  constructor
  · rintro (h | h | h)
    · exact .inr (.inl h)
    · exact .inl h
    · exact .inr (.inr h)
  · rintro (h | h | h)
    · exact .inr (.inl h)
    · exact .inl h
    · exact .inr (.inr h)
theorem take_call {w : World} {p : Program} {loose : List Str} {mean : ExcName → Option Value} {mg mb : Str → Option Value}
    {dp un : Nat} {gd : Option (List Code)} {cn : Str} {cs : Scope} {a : Addr} {ccd : Value} {cl : List (Str × Addr)} {outer : List Env} {A₀ : Around} {base h₀ : Heap} {L : Addr} {m : Str → Option Value} {s : Shared} {Q E : Value → Shared → Prop}
    {src : Addr} {x y top : Int} {tx ty tt : Tok} {n : Nat} {pre post : List (Addr × Obj)}
    (B : Below A₀ base outer h₀) (F : Fr h₀ L s.heap m) (X : (Mine.hd.heap_39 w.params).In h₀) (N : News h₀ L s.heap (pre ++ (src, listOf #[.int x tx, .int y ty] n) :: post)) (T : Top p loose mean mg mb h₀)
    (hk : cs.kind = .function) (hr : ∀ p ∈ pre ++ post, p.1 ≠ src) (hx : 0 ≤ x) (hy : 0 ≤ y) (hy2 : y < 2147483647) (ht : 0 < top) (ht2 : top < 1000000) (hd : dp + 1 < recursionLimit) (hu : un + 8 < cLine)
    (ret : ∀ v tv x' tx' y' ty' n' h' tk', Fr h₀ L h' m → News h₀ L h' (pre ++ (src, listOf #[.int x' tx', .int y' ty'] n') :: post) → 0 ≤ v → v < top → 0 ≤ x' → 0 ≤ y' → y' < 2147483647 →
      Q (.int v tv) { s with heap := h', toks := tk' }) :
    wpAny (model PySem.Challenge.rw_nt0538_01.row.prog w) (ktrTop dp un gd cn cs L a ccd cl outer) (call (.ref 124) [.ref src, .int top tt]) Q E s := by
  have N2 : News h₀ L s.heap ((src, listOf #[.int x tx, .int y ty] n) :: (pre ++ post)) := fun p hp => N p (mem_swap.mp hp)
  refine take_ok B F X N2 T hk hr hx hy hy2 ht ht2 hd hu (fun v tv x' tx' y' ty' n' h' tk' F' N' a b c d e => ret v tv x' tx' y' ty' n' h' tk' F' (fun p hp => N' p (mem_swap.mpr hp)) a b c d e)
theorem words_2 : True := by
  k_with_none
  k_with "own k_all" => (assumption)
  k_with "my subscriptTail Name Constant ref int" => (k_here; (with_reducible show wpAny _ _ (subscriptTail _ _ (Value.ref _) (Value.int _ _)) _ _ _); (with_unfolding_all refine' item_litK ?k1 ?k2 ?k3 ?k4 ?_ ?k6; (case k1 => is_list); (case k2 => decide); (case k3 => decide); (case k4 => rfl); (case k6 => with_unfolding_all rfl); k_whole))
  k_with "my take asks" => ( (case k2 => k_asm); (case k1 => k_asm); (case k3 => k_asm); (case k5 => k_asm); (case kK => first | exact rfl | assumption); (case kr => k_all); (case kx => assumption); (case ky => assumption); (case ky2 => assumption); (case kt => first | decide | omega); (case kt2 => first | decide | omega); (case kd => ktr_room); (case ku => ktr_units); intro _ _ _ _ _ _ _ _ _ _ N' _ _ _ _ _; (try simp only [List.nil_append, List.cons_append] at N'); (try dsimp only); (try k_fold); (have N' := True.intro))
  k_with "my call ref" => (k_here; (with_reducible show wpAny _ _ (call (Value.ref 124) _) _ _ _); k_dflt (first | (refine' take_call (pre := []) ?k1 ?k2 ?k3 ?k4 ?k5 ?kK ?kr ?kx ?ky ?ky2 ?kt ?kt2 ?kd ?ku ?_; (case k4 => assumption); walk_at "take asks") | (refine' take_call (pre := [_]) ?k1 ?k2 ?k3 ?k4 ?k5 ?kK ?kr ?kx ?ky ?ky2 ?kt ?kt2 ?kd ?ku ?_; (case k4 => assumption); walk_at "take asks") | (refine' take_call (pre := [_, _]) ?k1 ?k2 ?k3 ?k4 ?k5 ?kK ?kr ?kx ?ky ?ky2 ?kt ?kt2 ?kd ?ku ?_; (case k4 => assumption); walk_at "take asks") | (refine' take_call (pre := [_, _, _]) ?k1 ?k2 ?k3 ?k4 ?k5 ?kK ?kr ?kx ?ky ?ky2 ?kt ?kt2 ?kd ?ku ?_; (case k4 => assumption); walk_at "take asks") | (refine' take_call (pre := [_, _, _, _]) ?k1 ?k2 ?k3 ?k4 ?k5 ?kK ?kr ?kx ?ky ?ky2 ?kt ?kt2 ?kd ?ku ?_; (case k4 => assumption); walk_at "take asks") | (refine' take_call (pre := [_, _, _, _, _]) ?k1 ?k2 ?k3 ?k4 ?k5 ?kK ?kr ?kx ?ky ?ky2 ?kt ?kt2 ?kd ?ku ?_; (case k4 => assumption); walk_at "take asks") | (refine' take_call (pre := [_, _, _, _, _, _]) ?k1 ?k2 ?k3 ?k4 ?k5 ?kK ?kr ?kx ?ky ?ky2 ?kt ?kt2 ?kd ?ku ?_; (case k4 => assumption); walk_at "take asks")))
  trivial
theorem num_bd {dv a : Int} (h1 : 1 ≤ dv) (h2 : dv ≤ 1000000) (ha : 0 ≤ a) (ha2 : a < 9) : 0 ≤ (dv * a).fdiv 2 ∧ (dv * a).fdiv 2 ≤ 4000000 := by
  have e : 0 ≤ dv * a := Int.mul_nonneg (by omega) ha
  have e2 : dv * a ≤ 1000000 * 8 := Int.mul_le_mul h2 (by omega) ha (by decide)
  rw [Int.fdiv_eq_ediv_of_nonneg _ (by decide)]
  omega
theorem num_b1 {dv a b : Int} (h1 : 1 ≤ dv) (h2 : dv ≤ 1000000) (ha : 0 ≤ a) (ha2 : a < 9) (hb : 0 ≤ b) (hb2 : b < 3) : -10000000 < (dv * a).fdiv 2 + b - 1 := by have := num_bd h1 h2 ha ha2; omega
theorem num_b2 {dv a b : Int} (h1 : 1 ≤ dv) (h2 : dv ≤ 1000000) (ha : 0 ≤ a) (ha2 : a < 9) (hb : 0 ≤ b) (hb2 : b < 3) : (dv * a).fdiv 2 + b - 1 < 10000000 := by have := num_bd h1 h2 ha ha2; omega
theorem num_b3 {dv a b : Int} (h1 : 1 ≤ dv) (h2 : dv ≤ 1000000) (ha : 0 ≤ a) (ha2 : a < 9) (hb : 0 ≤ b) (hb2 : b < 3) : -10000000 < -((dv * a).fdiv 2 + b - 1) := by have := num_bd h1 h2 ha ha2; omega
theorem num_b4 {dv a b : Int} (h1 : 1 ≤ dv) (h2 : dv ≤ 1000000) (ha : 0 ≤ a) (ha2 : a < 9) (hb : 0 ≤ b) (hb2 : b < 3) : -((dv * a).fdiv 2 + b - 1) < 10000000 := by have := num_bd h1 h2 ha ha2; omega
set_option maxRecDepth 100000 in
set_option maxHeartbeats 8000000 in
theorem number_ok {w : World} {p : Program} {loose : List Str} {mean : ExcName → Option Value} {mg mb : Str → Option Value}
    {dp un : Nat} {gd : Option (List Code)} {cn : Str} {cs : Scope} {a : Addr} {ccd : Value} {cl : List (Str × Addr)} {outer : List Env} {A₀ : Around} {base h₀ : Heap} {L : Addr} {m : Str → Option Value} {s : Shared} {Q E : Value → Shared → Prop}
    {src : Addr} {x y dv : Int} {tx ty tt : Tok} {n : Nat} {rest : List (Addr × Obj)}
    (B : Below A₀ base outer h₀) (F : Fr h₀ L s.heap m) (X : (Mine.hd.heap_39 w.params).In h₀) (N : News h₀ L s.heap ((src, listOf #[.int x tx, .int y ty] n) :: rest)) (T : Top p loose mean mg mb h₀)
    (hk : cs.kind = .function) (hr : ∀ p ∈ rest, p.1 ≠ src) (hx : 0 ≤ x) (hy : 0 ≤ y) (hy2 : y < 2147483647) (hv1 : 1 ≤ dv) (hv2 : dv ≤ 1000000) (hd : dp + 3 < recursionLimit) (hu : un + 40 < cLine)
    (ret : ∀ v tv x' tx' y' ty' n' h' tk', Fr h₀ L h' m → News h₀ L h' ((src, listOf #[.int x' tx', .int y' ty'] n') :: rest) → -10000000 < v → v < 10000000 → 0 ≤ x' → 0 ≤ y' → y' < 2147483647 →
      Q (.int v tv) { s with heap := h', toks := tk' }) :
    wpAny (model PySem.Challenge.rw_nt0538_01.row.prog w) (ktrTop dp un gd cn cs L a ccd cl outer) (call (.ref 131) [.ref src, .int dv tt]) Q E s := by
  revert X; k_fill; intro X
  refine wpAny_call ?_
  k_dflt cell_enter
  k_steps
  all_goals (refine ret _ _ _ _ _ _ _ _ _ (by k_asm) (by k_asm) ?_ ?_ (by assumption) (by assumption) (by assumption))
  all_goals first
    | omega
    | exact num_b1 hv1 hv2 (by assumption) (by assumption) (by assumption) (by assumption)
    | exact num_b2 hv1 hv2 (by assumption) (by assumption) (by assumption) (by assumption)
    | exact num_b3 hv1 hv2 (by assumption) (by assumption) (by assumption) (by assumption)
    | exact num_b4 hv1 hv2 (by assumption) (by assumption) (by assumption) (by assumption)
-- C1
section
variable {d c : Nat} {q1 q2 q3 : Addr × Obj} {rest : List (Addr × Obj)}
theorem lt_ne0 (h : ∀ p ∈ rest, p.1 < d) (hc : d ≤ c) : ∀ p ∈ rest, p.1 ≠ c := fun p hp => Nat.ne_of_lt (Nat.lt_of_lt_of_le (h p hp) hc)
theorem lt_ne1 (h : ∀ p ∈ q1 :: rest, p.1 < d) (hc : d ≤ c) : ∀ p ∈ rest, p.1 ≠ c := lt_ne0 (fun p hp => h p (.tail _ hp)) hc
theorem lt_ne2 (h : ∀ p ∈ q1 :: q2 :: rest, p.1 < d) (hc : d ≤ c) : ∀ p ∈ rest, p.1 ≠ c := lt_ne1 (fun p hp => h p (.tail _ hp)) hc
theorem lt_ne3 (h : ∀ p ∈ q1 :: q2 :: q3 :: rest, p.1 < d) (hc : d ≤ c) : ∀ p ∈ rest, p.1 ≠ c := lt_ne2 (fun p hp => h p (.tail _ hp)) hc
end
theorem item_menuB {prog : Program} {w : World} {A : Around} {E : Value → Shared → Prop} {s : Shared} {value slice : PySem.Expr} {l : Addr} {vs : List Value} {ns : List Int} {k : Int} {u : Tok} {Q : Value → Shared → Prop} (lo hi : Int) (hl : s.heap.IsList l vs.toArray) (hI : IntsAre vs ns)
    (h0 : 0 ≤ k) (h1 : k < ns.length) (hfit : k < 2 ^ 63) (hb : ∀ v ∈ ns, lo ≤ v ∧ v ≤ hi) (h : ∀ v t, lo ≤ v → v ≤ hi → Q (.int v t) s)
    (hs : subscripted slice false (.ref l) (.int k u) = operate [.ref l, .int k u] (getItem (.ref l) (.int k u)) := by with_unfolding_all rfl) :
    wpAny (model prog w) A (subscriptTail value slice (.ref l) (.int k u)) Q E s := by
  have hm : ns.getD k.toNat 0 ∈ ns := by
    have h2 : k.toNat < ns.length := by omega
    rw [List.getD_eq_getElem?_getD, List.getElem?_eq_getElem h2]
    exact List.getElem_mem h2
  obtain ⟨t, hx⟩ := hI.get k.toNat _ (ints_getD h0 h1)
  exact item_litK hl h0 hfit hx (h _ t (hb _ hm).1 (hb _ hm).2) hs
theorem comp_inv {prog : Program} {w : World} {A : Around} {h₀ : Heap} {L : Addr} {m : Str → Option Value} {env : Env} {elt : PySem.Expr} {x : Str} {scope : Scope} {cl : List (Str × Addr)} {s : Shared} {S : List (Addr × Obj) → Prop} {P : Nat → Value → Prop}
    {Fin : List Value → List (Addr × Obj) → Prop} {n : Nat} {news : List (Addr × Obj)} (J : Nat → List Value → List (Addr × Obj) → Prop) (h0 : J 0 [] news)
    (turn : ∀ i ys nw, i < n → J i ys nw → ∀ v I oI C oC D m₂ h tk (E' : Value → Shared → Prop), P i v → LCg.NsObj oC m₂ → m₂ x = some v → Fr h₀ L h m → News h₀ L h ((I, oI) :: (C, oC) :: (D, LCg.lst ys) :: nw) → LCg.Off3 I C D nw → ((@Ne Nat I C) ∧ (@Ne Nat I D) ∧ (@Ne Nat C D)) →
      wpAny (model prog w) A (eval elt (compEnvC scope cl C env)) (LCg.CompEnd h₀ L m { s with heap := h, toks := tk } I oI C oC D (LCg.lst ys) S (fun y nw' => J (i + 1) (ys ++ [y]) nw')) E' { s with heap := h, toks := tk })
    (fin : ∀ ys nw, J n ys nw → Fin ys nw) : LCg.CompRest prog w A h₀ L m env elt x scope cl s S P Fin n 0 [] news := by
  have key : ∀ (j i : Nat) (ys : List Value) (nw : List (Addr × Obj)), i + j = n → J i ys nw → LCg.CompRest prog w A h₀ L m env elt x scope cl s S P Fin j i ys nw := by
    intro j
    induction j with
    | zero =>
      intro i ys nw hi hJ
      obtain rfl : i = n := by omega
      exact LCg.CompRest.zero (fin ys nw hJ)
    | succ j ih =>
      intro i ys nw hi hJ
      refine LCg.CompRest.succ ?_
      intro v I oI C oC D m₂ h tk E' hv hC hx F N off ne
      refine wpAny_mono (turn i ys nw (by omega) hJ v I oI C oC D m₂ h tk E' hv hC hx F N off ne) (fun y s₂ hq => ?_) fun _ _ e => e
      obtain ⟨h', tk', nw', e, F', N', off', hS, hj⟩ := hq
      exact ⟨h', tk', nw', e, F', N', off', hS, ih (i + 1) (ys ++ [y]) nw' (by omega) hj⟩
  exact key n 0 [] news (by omega) h0
structure NewAbove (D : Addr) (l : List (Addr × Obj)) : Prop where
  out : ∀ p ∈ l, p.1 < D
theorem off1_of {D : Addr} : ∀ {l : List (Addr × Obj)}, (∀ p ∈ l, p.1 ≠ D) → LCg.Off1 D l
  | [], _ => trivial
  | _ :: _, h => ⟨h _ (.head _), off1_of fun p hp => h p (.tail _ hp)⟩
def DrawJ (pre rest : List (Addr × Obj)) (src : Addr) (good : Int → Prop) (i : Nat) (ys : List Value) (nw : List (Addr × Obj)) : Prop :=
  ∃ x tx y ty n ns, nw = pre ++ (src, listOf #[.int x tx, .int y ty] n) :: rest ∧ 0 ≤ x ∧ 0 ≤ y ∧ y < 2147483647 ∧ IntsAre ys ns ∧ ns.length = i ∧ ∀ v ∈ ns, good v
theorem DrawJ.zero {pre rest : List (Addr × Obj)} {src : Addr} {good : Int → Prop} {x y : Int} {tx ty : Tok} {n : Nat} (hx : 0 ≤ x) (hy : 0 ≤ y) (hyy : y < 2147483647) :
    DrawJ pre rest src good 0 [] (pre ++ (src, listOf #[.int x tx, .int y ty] n) :: rest) := ⟨x, tx, y, ty, n, [], rfl, hx, hy, hyy, .nil, rfl, fun _ h => nomatch h⟩
theorem DrawJ.succ {pre rest : List (Addr × Obj)} {src : Addr} {good : Int → Prop} {i : Nat} {ys : List Value} {ns : List Int} {x y v : Int} {tx ty t : Tok} {n : Nat} (hI : IntsAre ys ns) (hl : ns.length = i) (hg : ∀ v ∈ ns, good v)
    (hx : 0 ≤ x) (hy : 0 ≤ y) (hyy : y < 2147483647) (hv : good v) :
    DrawJ pre rest src good (i + 1) (ys ++ [.int v t]) (pre ++ (src, listOf #[.int x tx, .int y ty] n) :: rest) :=
  ⟨x, tx, y, ty, n, ns ++ [v], rfl, hx, hy, hyy, IntsAre.append hI (.cons _ _ .nil), by rw [List.length_append, hl]; rfl, fun u hu => by
    rcases List.mem_append.mp hu with h | h
    · exact hg u h
    · rw [List.mem_singleton.mp h]; exact hv⟩
theorem ne_of_cls {h₀ h : Heap} {L r q : Addr} {o1 o2 : Obj} {l : List (Addr × Obj)} (N : News h₀ L h l) (h1 : (r, o1) ∈ l) (h2 : (q, o2) ∈ l) (hc : o1.cls ≠ o2.cls) : r ≠ q := by
  rintro rfl
  have a := (N _ h1).1
  have b := (N _ h2).1
  dsimp only at a b
  rw [a] at b
  exact hc (by rw [Option.some.inj b])
section
theorem words_3 : True := by
  k_with_none
  k_with "own k_all" => (assumption)
  k_with "my subscriptTail Name Constant ref int" => (k_here; (with_reducible show wpAny _ _ (subscriptTail _ _ (Value.ref _) (Value.int _ _)) _ _ _); (with_unfolding_all refine' item_litK ?k1 ?k2 ?k3 ?k4 ?_ ?k6; (case k1 => is_list); (case k2 => decide); (case k3 => decide); (case k4 => rfl); (case k6 => with_unfolding_all rfl); k_whole))
  k_with "my take asks" => ( (case k2 => k_asm); (case k1 => k_asm); (case k3 => k_asm); (case k5 => k_asm); (case kK => first | exact rfl | assumption); (case kr => k_all); (case kx => assumption); (case ky => assumption); (case ky2 => assumption); (case kt => first | decide | omega); (case kt2 => first | decide | omega); (case kd => ktr_room); (case ku => ktr_units); intro _ _ _ _ _ _ _ _ _ _ N' _ _ _ _ _; (try simp only [List.nil_append, List.cons_append] at N'); (try dsimp only); (try k_fold); (have N' := True.intro))
  k_with "my call ref" => (k_here; (with_reducible show wpAny _ _ (call (Value.ref 124) _) _ _ _); k_dflt (first | (refine' take_call (pre := []) ?k1 ?k2 ?k3 ?k4 ?k5 ?kK ?kr ?kx ?ky ?ky2 ?kt ?kt2 ?kd ?ku ?_; (case k4 => assumption); walk_at "take asks") | (refine' take_call (pre := [_]) ?k1 ?k2 ?k3 ?k4 ?k5 ?kK ?kr ?kx ?ky ?ky2 ?kt ?kt2 ?kd ?ku ?_; (case k4 => assumption); walk_at "take asks") | (refine' take_call (pre := [_, _]) ?k1 ?k2 ?k3 ?k4 ?k5 ?kK ?kr ?kx ?ky ?ky2 ?kt ?kt2 ?kd ?ku ?_; (case k4 => assumption); walk_at "take asks") | (refine' take_call (pre := [_, _, _]) ?k1 ?k2 ?k3 ?k4 ?k5 ?kK ?kr ?kx ?ky ?ky2 ?kt ?kt2 ?kd ?ku ?_; (case k4 => assumption); walk_at "take asks") | (refine' take_call (pre := [_, _, _, _]) ?k1 ?k2 ?k3 ?k4 ?k5 ?kK ?kr ?kx ?ky ?ky2 ?kt ?kt2 ?kd ?ku ?_; (case k4 => assumption); walk_at "take asks") | (refine' take_call (pre := [_, _, _, _, _]) ?k1 ?k2 ?k3 ?k4 ?k5 ?kK ?kr ?kx ?ky ?ky2 ?kt ?kt2 ?kd ?ku ?_; (case k4 => assumption); walk_at "take asks") | (refine' take_call (pre := [_, _, _, _, _, _]) ?k1 ?k2 ?k3 ?k4 ?k5 ?kK ?kr ?kx ?ky ?ky2 ?kt ?kt2 ?kd ?ku ?_; (case k4 => assumption); walk_at "take asks")))
  k_with "own k_all" => (first | assumption | exact lt_ne0 (by assumption) (by omega) | exact lt_ne1 (by assumption) (by omega) | exact lt_ne2 (by assumption) (by omega) | exact lt_ne3 (by assumption) (by omega))
  k_with "my enter C" => (refine' code_defC ?k1 ?k2 ?k3 ?k4 ?k5 ?kA ?kF ?kK ?k6 ?k7 ?k8 ?k9 ?kB ?kD ?_ ?c2 ?c3 ?c4; (case kA => exact rfl); (case kF => exact rfl); (case kK => assumption); (case k1 => k_asm); (case k2 => k_asm); (case k3 => k_asm); (case k4 => k_asm); (case k5 => k_asm); (case k6 => k_is); (case k7 => k_is); (case k8 => ktr_room); (case k9 => exact BindsTo.of_eq rfl); (case kB => exact rfl); (case kD => decide +kernel); (case c2 => exact rfl); (case c3 => exact rfl); (case c4 => exact rfl); k_whole; intro _ _ _ _ _ _ _ N' Y' B' _ _ l1; (have l2 := l1); (try k_lt l1); k_cells Y'; (try simp only [List.cons_append, List.nil_append] at N'); (try dsimp only); (try k_lift B'); (try k_fold); (have N' := True.intro); (have Y' := True.intro); (have B' := True.intro); (have l1 := True.intro); (have l2 := True.intro))
  k_with "my subscriptTail" => (k_here; (with_reducible show wpAny _ _ (subscriptTail (PySem.Expr.List _ _) _ (Value.ref _) (Value.int _ _)) _ _ _); (with_unfolding_all (first | (refine' item_menuB 1 65535 ?k1 ?k2 ?k3 ?k4 ?k5 ?kb ?_; (case k1 => is_list); (case k2 => l_ints); (case kb => decide); (case k3 => l_idx); (case k4 => l_idx); (case k5 => l_idx); k_whole) | (refine' item_menuB (-7) 130 ?k1 ?k2 ?k3 ?k4 ?k5 ?kb ?_; (case k1 => is_list); (case k2 => l_ints); (case kb => decide); (case k3 => l_idx); (case k4 => l_idx); (case k5 => l_idx); k_whole))); intro _ _ _ _)
  k_with "my eval ListComp" => (k_here; k_dflt (refine LCg.ListComp_U (F₀ := by k_asm) (by with_unfolding_all rfl) (by decide) (by rfl) (by decide) (by rfl) ?_))
  k_with "my CompSrc" => (k_here; k_dflt (refine LCg.CompSrc.range (by rfl) (by k_asm) (by k_asm) (by assumption) (by first | exact small_one (by kcf_bnd) (by kcf_bnd) (by kcf_bnd) (by kcf_bnd) | decide) (by first | exact rangeSize_nat _ _ | rfl) (by first | (rw [PySem.sizeLine_eq]; omega) | (rw [PySem.sizeLine_eq]; (simp only [List.size_toArray]); omega) | size_fits) ?_; intro _))
  k_with "my CompRest" => (fail "mine")
  k_with "my call type:tuple" => (k_here; (with_reducible show wpAny _ _ (call (Value.type _) [Value.ref _]) _ _ _); k_dflt (refine' kde_tupleOf ?k1 ?k2 ?k3 ?k4 ?k5 ?_; (case k1 => k_asm); (case k2 => k_asm); (case k3 => exact News.isList (by k_asm) (by k_mem)); (case k4 => (simp only [List.size_toArray]; omega)); (case k5 => exact rfl); k_whole); intro _ _ _ _ l9'; (have l8' := NewAbove.mk l9'); (have l9' := True.intro); (have l8' := True.intro))
  trivial
set_option maxRecDepth 100000 in
set_option maxHeartbeats 8000000 in
theorem table_ok {w : World} {p : Program} {loose : List Str} {mean : ExcName → Option Value} {mg mb : Str → Option Value}
    {dp un : Nat} {gd : Option (List Code)} {cn : Str} {cs : Scope} {a : Addr} {ccd : Value} {cl : List (Str × Addr)} {outer : List Env} {A₀ : Around} {base h₀ : Heap} {L : Addr} {m : Str → Option Value} {s : Shared} {Q E : Value → Shared → Prop}
    {src : Addr} {x y : Int} {many : Int} {tx ty tt : Tok} {n : Nat} {rest : List (Addr × Obj)}
    (B : Below A₀ base outer h₀) (F : Fr h₀ L s.heap m) (X : (Mine.hd.heap_39 w.params).In h₀) (N : News h₀ L s.heap ((src, listOf #[.int x tx, .int y ty] n) :: rest)) (T : Top p loose mean mg mb h₀)
    (hk : cs.kind = .function) (hr : ∀ p ∈ rest, p.1 ≠ src) (hx : 0 ≤ x) (hy : 0 ≤ y) (hy2 : y < 2147483647) (hmany : many ≤ 9) (hd : dp + 3 < recursionLimit) (hu : un + 40 < cLine)
    (hm0 : 0 ≤ many) (ret : ∀ r vs ns x' tx' y' ty' n' h' tk', Fr h₀ L h' m → News h₀ L h' ((r, { cls := .type "tuple", data := .seq vs.toArray }) :: (src, listOf #[.int x' tx', .int y' ty'] n') :: rest) → r ≠ src → LCg.Off1 r rest → IntsAre vs ns → ns.length = many.toNat → (∀ v ∈ ns, 1 ≤ v ∧ v ≤ 65535) → 0 ≤ x' → 0 ≤ y' → y' < 2147483647 →
      Q (.ref r) { s with heap := h', toks := tk' }) :
    wpAny (model PySem.Challenge.rw_nt0538_01.row.prog w) (ktrTop dp un gd cn cs L a ccd cl outer) (call (.ref 136) [.ref src, .int many tt]) Q E s := by
  obtain ⟨mn, rfl⟩ := Int.eq_ofNat_of_zero_le hm0
  revert X; k_fill; intro X
  refine wpAny_call ?_
  k_dflt (walk_at "enter C")
  k_steps
  refine comp_inv (DrawJ [_, _, _] rest src (fun v => 1 ≤ v ∧ v ≤ 65535)) (DrawJ.zero (by assumption) (by assumption) (by assumption)) ?turn ?fin
  case turn =>
    rintro i ys nw hi ⟨x2, tx2, y2, ty2, n2, ns2, rfl, hx2, hy2, hyy2, hI2, hl2, hg2⟩ v I' oI' C' oC' D' m' h' tk' E' ⟨t9, rfl⟩ hC' hx' F' N' off' ne'
    simp only [LCg.Off3, List.cons_append, List.nil_append] at off' N'
    (try k_fold)
    k_steps
    refine LCg.CompEnd.intro (by k_asm) (by k_asm) _ (fun p hp => hp) ?_ trivial ?_
    · exact off'
    · exact DrawJ.succ (pre := [_, _, _]) hI2 hl2 hg2 (by assumption) (by assumption) (by assumption) (by omega)
  case fin =>
    rintro ys nw ⟨x2, tx2, y2, ty2, n2, ns2, rfl, hx2, hy2, hyy2, hI2, hl2, hg2⟩
    have hy9 := hI2.length
    k_steps
    (rename News _ _ _ _ => N9)
    (rename NewAbove _ _ => l9)
    have ne9 := ne_of_cls N9 (.head _) (.tail _ (.tail _ (.tail _ (.tail _ (.tail _ (.head _)))))) (by show ¬ (_ = _); simp)
    refine ret _ ys ns2 _ _ _ _ _ _ _ (by k_asm) (cb_drop (by k_asm) (by kcf_all)) ne9 (off1_of fun p hp => Nat.ne_of_lt (l9.out p (.tail _ (.tail _ (.tail _ (.tail _ (.tail _ hp))))))) hI2 (by rw [hl2]; omega) hg2 (by assumption) (by assumption) (by assumption)
end
-- D1
theorem words_4 : True := by
  k_with_none
  k_with "own k_all" => (assumption)
  k_with "my subscriptTail Name Constant ref int" => (k_here; (with_reducible show wpAny _ _ (subscriptTail _ _ (Value.ref _) (Value.int _ _)) _ _ _); (with_unfolding_all refine' item_litK ?k1 ?k2 ?k3 ?k4 ?_ ?k6; (case k1 => is_list); (case k2 => decide); (case k3 => decide); (case k4 => rfl); (case k6 => with_unfolding_all rfl); k_whole))
  k_with "my take asks" => ( (case k2 => k_asm); (case k1 => k_asm); (case k3 => k_asm); (case k5 => k_asm); (case kK => first | exact rfl | assumption); (case kr => k_all); (case kx => assumption); (case ky => assumption); (case ky2 => assumption); (case kt => first | decide | omega); (case kt2 => first | decide | omega); (case kd => ktr_room); (case ku => ktr_units); intro _ _ _ _ _ _ _ _ _ _ N' _ _ _ _ _; (try simp only [List.nil_append, List.cons_append] at N'); (try dsimp only); (try k_fold); (have N' := True.intro))
  k_with "my call ref" => (k_here; (with_reducible show wpAny _ _ (call (Value.ref 124) _) _ _ _); k_dflt (first | (refine' take_call (pre := []) ?k1 ?k2 ?k3 ?k4 ?k5 ?kK ?kr ?kx ?ky ?ky2 ?kt ?kt2 ?kd ?ku ?_; (case k4 => assumption); walk_at "take asks") | (refine' take_call (pre := [_]) ?k1 ?k2 ?k3 ?k4 ?k5 ?kK ?kr ?kx ?ky ?ky2 ?kt ?kt2 ?kd ?ku ?_; (case k4 => assumption); walk_at "take asks") | (refine' take_call (pre := [_, _]) ?k1 ?k2 ?k3 ?k4 ?k5 ?kK ?kr ?kx ?ky ?ky2 ?kt ?kt2 ?kd ?ku ?_; (case k4 => assumption); walk_at "take asks") | (refine' take_call (pre := [_, _, _]) ?k1 ?k2 ?k3 ?k4 ?k5 ?kK ?kr ?kx ?ky ?ky2 ?kt ?kt2 ?kd ?ku ?_; (case k4 => assumption); walk_at "take asks") | (refine' take_call (pre := [_, _, _, _]) ?k1 ?k2 ?k3 ?k4 ?k5 ?kK ?kr ?kx ?ky ?ky2 ?kt ?kt2 ?kd ?ku ?_; (case k4 => assumption); walk_at "take asks") | (refine' take_call (pre := [_, _, _, _, _]) ?k1 ?k2 ?k3 ?k4 ?k5 ?kK ?kr ?kx ?ky ?ky2 ?kt ?kt2 ?kd ?ku ?_; (case k4 => assumption); walk_at "take asks") | (refine' take_call (pre := [_, _, _, _, _, _]) ?k1 ?k2 ?k3 ?k4 ?k5 ?kK ?kr ?kx ?ky ?ky2 ?kt ?kt2 ?kd ?ku ?_; (case k4 => assumption); walk_at "take asks")))
  k_with "own k_all" => (first | assumption | exact lt_ne0 (by assumption) (by omega) | exact lt_ne1 (by assumption) (by omega) | exact lt_ne2 (by assumption) (by omega) | exact lt_ne3 (by assumption) (by omega))
  k_with "my enter C" => (refine' code_defC ?k1 ?k2 ?k3 ?k4 ?k5 ?kA ?kF ?kK ?k6 ?k7 ?k8 ?k9 ?kB ?kD ?_ ?c2 ?c3 ?c4; (case kA => exact rfl); (case kF => exact rfl); (case kK => assumption); (case k1 => k_asm); (case k2 => k_asm); (case k3 => k_asm); (case k4 => k_asm); (case k5 => k_asm); (case k6 => k_is); (case k7 => k_is); (case k8 => ktr_room); (case k9 => exact BindsTo.of_eq rfl); (case kB => exact rfl); (case kD => decide +kernel); (case c2 => exact rfl); (case c3 => exact rfl); (case c4 => exact rfl); k_whole; intro _ _ _ _ _ _ _ N' Y' B' _ _ l1; (have l2 := l1); (try k_lt l1); k_cells Y'; (try simp only [List.cons_append, List.nil_append] at N'); (try dsimp only); (try k_lift B'); (try k_fold); (have N' := True.intro); (have Y' := True.intro); (have B' := True.intro); (have l1 := True.intro); (have l2 := True.intro))
  k_with "my subscriptTail" => (k_here; (with_reducible show wpAny _ _ (subscriptTail (PySem.Expr.List _ _) _ (Value.ref _) (Value.int _ _)) _ _ _); (with_unfolding_all (first | (refine' item_menuB 1 65535 ?k1 ?k2 ?k3 ?k4 ?k5 ?kb ?_; (case k1 => is_list); (case k2 => l_ints); (case kb => decide); (case k3 => l_idx); (case k4 => l_idx); (case k5 => l_idx); k_whole) | (refine' item_menuB (-7) 130 ?k1 ?k2 ?k3 ?k4 ?k5 ?kb ?_; (case k1 => is_list); (case k2 => l_ints); (case kb => decide); (case k3 => l_idx); (case k4 => l_idx); (case k5 => l_idx); k_whole))); intro _ _ _ _)
  k_with "my eval ListComp" => (k_here; k_dflt (refine LCg.ListComp_U (F₀ := by k_asm) (by with_unfolding_all rfl) (by decide) (by rfl) (by decide) (by rfl) ?_))
  k_with "my CompSrc" => (k_here; k_dflt (refine LCg.CompSrc.range (by rfl) (by k_asm) (by k_asm) (by assumption) (by first | exact small_one (by kcf_bnd) (by kcf_bnd) (by kcf_bnd) (by kcf_bnd) | decide) (by first | exact rangeSize_nat _ _ | rfl) (by first | (rw [PySem.sizeLine_eq]; omega) | (rw [PySem.sizeLine_eq]; (simp only [List.size_toArray]); omega) | size_fits) ?_; intro _))
  k_with "my CompRest" => (fail "mine")
  trivial
def nr (a d : Int) : Int := if a < 0 then -((2 * (if a < 0 then -a else a) + d).fdiv (2 * d)) else (2 * (if a < 0 then -a else a) + d).fdiv (2 * d)
theorem nr_spec {x d : Int} (hd : 1 ≤ d) : ∃ A q P : Int, (if x < 0 then -x else x) = A ∧ (if nr x d < 0 then -(nr x d) else nr x d) = q ∧ q * d = P ∧ 0 ≤ A ∧ 0 ≤ q ∧ 2 * P ≤ 2 * A + d ∧ 2 * A + d < 2 * P + 2 * d ∧ ((x < 0 ∧ A = -x ∧ nr x d = -q) ∨ (0 ≤ x ∧ A = x ∧ nr x d = q)) ∧ (q = 0 → P = 0) ∧ (0 < q → d ≤ P) := by
  have key : ∀ A : Int, 0 ≤ A → ∃ q P : Int, (2 * A + d).fdiv (2 * d) = q ∧ q * d = P ∧ 0 ≤ q ∧ 2 * P ≤ 2 * A + d ∧ 2 * A + d < 2 * P + 2 * d ∧ (q = 0 → P = 0) ∧ (0 < q → d ≤ P) := by
    intro A hA
    refine ⟨_, _, rfl, rfl, ?_⟩
    rw [Int.fdiv_eq_ediv_of_nonneg _ (by omega)]
    have h1 : 0 ≤ (2 * A + d) / (2 * d) := Int.ediv_nonneg (by omega) (by omega)
    have h2 := Int.mul_ediv_add_emod (2 * A + d) (2 * d)
    have h3 := Int.emod_nonneg (2 * A + d) (show 2 * d ≠ 0 by omega)
    have h4 := Int.emod_lt_of_pos (2 * A + d) (show 0 < 2 * d by omega)
    generalize (2 * A + d) / (2 * d) = q at h1 h2 ⊢
    generalize (2 * A + d) % (2 * d) = r at h2 h3 h4
    have h5 : 2 * d * q = 2 * (q * d) := by rw [Int.mul_assoc, Int.mul_comm d q]
    rw [h5] at h2
    refine ⟨h1, by omega, by omega, fun e => by rw [e, Int.zero_mul], fun e => ?_⟩
    have h6 : 1 * d ≤ q * d := Int.mul_le_mul_of_nonneg_right (by omega) (by omega)
    omega
  by_cases hx : x < 0
  · obtain ⟨q, P, e, eP, h1, h2, h3, h4, h5⟩ := key (-x) (by omega)
    have en : nr x d = -q := by unfold nr; simp only [if_pos hx]; rw [e]
    refine ⟨-x, q, P, if_pos hx, ?_, eP, by omega, h1, h2, h3, .inl ⟨hx, rfl, en⟩, h4, h5⟩
    rw [en]; split <;> omega
  · obtain ⟨q, P, e, eP, h1, h2, h3, h4, h5⟩ := key x (by omega)
    have en : nr x d = q := by unfold nr; simp only [if_neg hx]; rw [e]
    refine ⟨x, q, P, if_neg hx, ?_, eP, by omega, h1, h2, h3, .inr ⟨by omega, rfl, en⟩, h4, h5⟩
    rw [en]; split <;> omega
theorem q_bool {Q : Value → Shared → Prop} {b : Bool} {s : Shared} (h : b = true) (hq : Q (.bool true) s) : Q (.bool b) s := by rw [h]; exact hq
theorem q_int {Q : Value → Shared → Prop} {a b : Int} {t : Tok} {s : Shared} (h : a = b) (hq : Q (.int b t) s) : Q (.int a t) s := by rw [h]; exact hq
set_option maxRecDepth 100000 in
set_option maxHeartbeats 8000000 in
theorem nearest_ok {w : World} {p : Program} {loose : List Str} {mean : ExcName → Option Value} {mg mb : Str → Option Value}
    {dp un : Nat} {gd : Option (List Code)} {cn : Str} {cs : Scope} {a : Addr} {ccd : Value} {cl : List (Str × Addr)} {outer : List Env} {A₀ : Around} {base h₀ : Heap} {L : Addr} {m : Str → Option Value} {s : Shared} {Q E : Value → Shared → Prop}
    {x d : Int} {tx td : Tok} {news : List (Addr × Obj)}
    (B : Below A₀ base outer h₀) (F : Fr h₀ L s.heap m) (X : (Mine.hd.heap_39 w.params).In h₀) (N : News h₀ L s.heap news) (T : Top p loose mean mg mb h₀)
    (hk : cs.kind = .function) (hd1 : 1 ≤ d) (hd2 : d ≤ 1000000) (hd : dp + 3 < recursionLimit) (hu : un + 40 < cLine)
    (ret : ∀ t h' tk', Fr h₀ L h' m → News h₀ L h' news → Q (.int (nr x d) t) { s with heap := h', toks := tk' }) :
    wpAny (model PySem.Challenge.rw_nt0538_01.row.prog w) (ktrTop dp un gd cn cs L a ccd cl outer) (call (.ref 86) [.int x tx, .int d td]) Q E s := by
  revert X; k_fill; intro X
  refine wpAny_call ?_
  k_dflt cell_enter
  k_steps
  all_goals refine q_int (Q := Q) ?_ (ret _ _ _ (by k_asm) (by k_asm))
  · have hx : x < 0 := by assumption
    simp only [nr, if_pos hx]
  · have hx : ¬ x < 0 := by omega
    simp only [nr, if_neg hx]
set_option maxRecDepth 100000 in
set_option maxHeartbeats 8000000 in
theorem isnr_ok {w : World} {p : Program} {loose : List Str} {mean : ExcName → Option Value} {mg mb : Str → Option Value}
    {dp un : Nat} {gd : Option (List Code)} {cn : Str} {cs : Scope} {a : Addr} {ccd : Value} {cl : List (Str × Addr)} {outer : List Env} {A₀ : Around} {base h₀ : Heap} {L : Addr} {m : Str → Option Value} {s : Shared} {Q E : Value → Shared → Prop}
    {x d y : Int} {tx td ty : Tok} {news : List (Addr × Obj)}
    (B : Below A₀ base outer h₀) (F : Fr h₀ L s.heap m) (X : (Mine.hd.heap_39 w.params).In h₀) (N : News h₀ L s.heap news) (T : Top p loose mean mg mb h₀)
    (hk : cs.kind = .function) (hd1 : 1 ≤ d) (hd2 : d ≤ 1000000) (hy : y = nr x d) (hd : dp + 3 < recursionLimit) (hu : un + 40 < cLine)
    (ret : ∀ h' tk', Fr h₀ L h' m → News h₀ L h' news → Q (.bool true) { s with heap := h', toks := tk' }) :
    wpAny (model PySem.Challenge.rw_nt0538_01.row.prog w) (ktrTop dp un gd cn cs L a ccd cl outer) (call (.ref 143) [.int x tx, .int d td, .int y ty]) Q E s := by
  revert X; k_fill; intro X
  refine wpAny_call ?_
  k_dflt cell_enter
  k_steps
  all_goals refine q_bool (Q := Q) ?_ (ret _ _ (by k_asm) (by k_asm))
  all_goals subst hy
  all_goals obtain ⟨A, q, P, hA, hq, hP, h1, h2, h3, h4, h5, h6, h7⟩ := nr_spec (x := x) hd1
  all_goals simp only [hA, hq, hP, decide_eq_true_eq, beq_iff_eq, decide_eq_decide]
  all_goals simp only [decide_eq_true_eq, decide_eq_false_iff_not, beq_iff_eq, Bool.not_eq_true, Bool.not_eq_false, beq_eq_false_iff_ne] at *
  all_goals first | omega | skip
def qsc (q : Int) : Int := if max 1 (min 100 q) < 50 then (5000 : Int).fdiv (max 1 (min 100 q)) else 200 - 2 * max 1 (min 100 q)
set_option maxRecDepth 100000 in
set_option maxHeartbeats 8000000 in
theorem qscale_ok {w : World} {p : Program} {loose : List Str} {mean : ExcName → Option Value} {mg mb : Str → Option Value}
    {dp un : Nat} {gd : Option (List Code)} {cn : Str} {cs : Scope} {a : Addr} {ccd : Value} {cl : List (Str × Addr)} {outer : List Env} {A₀ : Around} {base h₀ : Heap} {L : Addr} {m : Str → Option Value} {s : Shared} {Q E : Value → Shared → Prop}
    {q : Int} {tq : Tok} {news : List (Addr × Obj)}
    (B : Below A₀ base outer h₀) (F : Fr h₀ L s.heap m) (X : (Mine.hd.heap_39 w.params).In h₀) (N : News h₀ L s.heap news) (T : Top p loose mean mg mb h₀)
    (hk : cs.kind = .function) (hd : dp + 3 < recursionLimit) (hu : un + 40 < cLine)
    (ret : ∀ t h' tk', Fr h₀ L h' m → News h₀ L h' news → Q (.int (qsc q) t) { s with heap := h', toks := tk' }) :
    wpAny (model PySem.Challenge.rw_nt0538_01.row.prog w) (ktrTop dp un gd cn cs L a ccd cl outer) (call (.ref 53) [.int q tq]) Q E s := by
  revert X; k_fill; intro X
  refine wpAny_call ?_
  k_dflt cell_enter
  k_steps
  all_goals refine q_int (Q := Q) ?_ (ret _ _ _ (by k_asm) (by k_asm))
  all_goals have e1 : (if (if q < 100 then q else 100) > 1 then if q < 100 then q else 100 else 1) = max 1 (min 100 q) := by split <;> split <;> omega
  · have h9 : max 1 (min 100 q) < 50 := by rw [← e1]; first | assumption | omega
    unfold qsc; rw [if_pos h9, e1]
  · have h9 : ¬ max 1 (min 100 q) < 50 := by rw [← e1]; first | assumption | omega
    unfold qsc; rw [if_neg h9, e1]
-- E1
theorem off1_mem {D : Addr} : ∀ {l : List (Addr × Obj)}, LCg.Off1 D l → ∀ p ∈ l, p.1 ≠ D
  | [], _, _, h => nomatch h
  | _ :: _, x, p, h => by
    rcases List.mem_cons.mp h with rfl | h
    · exact x.1
    · exact off1_mem x.2 p h
theorem getD_ok {ns : List Int} {P : Int → Prop} {k : Int} (h : ∀ v ∈ ns, P v) (h0 : 0 ≤ k) (h1 : k < ns.length) : P (ns.getD k.toNat 0) := by
  have h2 : k.toNat < ns.length := by omega
  rw [List.getD_eq_getElem?_getD, List.getElem?_eq_getElem h2]
  exact h _ (List.getElem_mem h2)
abbrev tupOf (vs : List Value) : Obj := { cls := .type "tuple", data := .seq vs.toArray }
set_option maxRecDepth 100000 in
set_option maxHeartbeats 8000000 in
theorem deq_ok {w : World} {p : Program} {loose : List Str} {mean : ExcName → Option Value} {mg mb : Str → Option Value}
    {dp un : Nat} {gd : Option (List Code)} {cn : Str} {cs : Scope} {a : Addr} {ccd : Value} {cl : List (Str × Addr)} {outer : List Env} {A₀ : Around} {base h₀ : Heap} {L : Addr} {m : Str → Option Value} {s : Shared} {Q E : Value → Shared → Prop}
    {row qt : Addr} {rvs qvs : List Value} {rs qs : List Int} {n : Nat} {news : List (Addr × Obj)}
    (B : Below A₀ base outer h₀) (F : Fr h₀ L s.heap m) (X : (Mine.hd.heap_39 w.params).In h₀) (N : News h₀ L s.heap ((row, listOf rvs.toArray n) :: (qt, tupOf qvs) :: news)) (T : Top p loose mean mg mb h₀)
    (hk : cs.kind = .function) (hI : IntsAre rvs rs) (hJ : IntsAre qvs qs) (hl : rs.length ≤ 9) (hl2 : qs.length = rs.length) (hq : ∀ v ∈ qs, 1 ≤ v ∧ v ≤ 65535) (hd : dp + 3 < recursionLimit) (hu : un + 40 < cLine)
    (ret : ∀ r vs n' h' tk', Fr h₀ L h' m → News h₀ L h' ((r, listOf vs.toArray n') :: (row, listOf rvs.toArray n) :: (qt, tupOf qvs) :: news) → IntsAre vs ((rangeKs 0 rs.length).map fun k => rs.getD k.toNat 0 * qs.getD k.toNat 0) → LCg.Off1 r news → Q (.ref r) { s with heap := h', toks := tk' }) :
    wpAny (model PySem.Challenge.rw_nt0538_01.row.prog w) (ktrTop dp un gd cn cs L a ccd cl outer) (call (.ref 98) [.ref row, .ref qt]) Q E s := by
  revert X; k_fill; intro X
  refine wpAny_call ?_
  k_dflt (walk_at "enter C")
  k_steps
  refine kcf_range (fun k => rs.getD k.toNat 0 * qs.getD k.toNat 0) (fun k t I oI C oC D m₂ ys h tk E' h1 h2 hC hx F' N' off ne hM => ?_) (fun ys hys => ?_)
  · have hb := getD_ok (k := k) hq h1 (by omega)
    (try k_fold)
    k_steps
  · unfold LCg.FinE
    intro D' h' tk' F' N' o1'
    have o2 := off1_mem o1'
    k_steps
    have e9 : ((rs.length : Int) - 0).toNat = rs.length := by omega
    rw [e9] at hys
    exact ret _ ys _ _ _ (by k_asm) (cb_drop (by k_asm) (by kcf_all)) hys o1'.2.2.2.2

section
theorem words_5 : True := by
  k_with_none
  k_with "own k_all" => (assumption)
  k_with "my subscriptTail Name Constant ref int" => (k_here; (with_reducible show wpAny _ _ (subscriptTail _ _ (Value.ref _) (Value.int _ _)) _ _ _); (with_unfolding_all refine' item_litK ?k1 ?k2 ?k3 ?k4 ?_ ?k6; (case k1 => is_list); (case k2 => decide); (case k3 => decide); (case k4 => rfl); (case k6 => with_unfolding_all rfl); k_whole))
  k_with "my take asks" => ( (case k2 => k_asm); (case k1 => k_asm); (case k3 => k_asm); (case k5 => k_asm); (case kK => first | exact rfl | assumption); (case kr => k_all); (case kx => assumption); (case ky => assumption); (case ky2 => assumption); (case kt => first | decide | omega); (case kt2 => first | decide | omega); (case kd => ktr_room); (case ku => ktr_units); intro _ _ _ _ _ _ _ _ _ _ N' _ _ _ _ _; (try simp only [List.nil_append, List.cons_append] at N'); (try dsimp only); (try k_fold); (have N' := True.intro))
  k_with "my call ref" => (k_here; (with_reducible show wpAny _ _ (call (Value.ref 124) _) _ _ _); k_dflt (first | (refine' take_call (pre := []) ?k1 ?k2 ?k3 ?k4 ?k5 ?kK ?kr ?kx ?ky ?ky2 ?kt ?kt2 ?kd ?ku ?_; (case k4 => assumption); walk_at "take asks") | (refine' take_call (pre := [_]) ?k1 ?k2 ?k3 ?k4 ?k5 ?kK ?kr ?kx ?ky ?ky2 ?kt ?kt2 ?kd ?ku ?_; (case k4 => assumption); walk_at "take asks") | (refine' take_call (pre := [_, _]) ?k1 ?k2 ?k3 ?k4 ?k5 ?kK ?kr ?kx ?ky ?ky2 ?kt ?kt2 ?kd ?ku ?_; (case k4 => assumption); walk_at "take asks") | (refine' take_call (pre := [_, _, _]) ?k1 ?k2 ?k3 ?k4 ?k5 ?kK ?kr ?kx ?ky ?ky2 ?kt ?kt2 ?kd ?ku ?_; (case k4 => assumption); walk_at "take asks") | (refine' take_call (pre := [_, _, _, _]) ?k1 ?k2 ?k3 ?k4 ?k5 ?kK ?kr ?kx ?ky ?ky2 ?kt ?kt2 ?kd ?ku ?_; (case k4 => assumption); walk_at "take asks") | (refine' take_call (pre := [_, _, _, _, _]) ?k1 ?k2 ?k3 ?k4 ?k5 ?kK ?kr ?kx ?ky ?ky2 ?kt ?kt2 ?kd ?ku ?_; (case k4 => assumption); walk_at "take asks") | (refine' take_call (pre := [_, _, _, _, _, _]) ?k1 ?k2 ?k3 ?k4 ?k5 ?kK ?kr ?kx ?ky ?ky2 ?kt ?kt2 ?kd ?ku ?_; (case k4 => assumption); walk_at "take asks")))
  k_with "own k_all" => (first | assumption | exact lt_ne0 (by assumption) (by omega) | exact lt_ne1 (by assumption) (by omega) | exact lt_ne2 (by assumption) (by omega) | exact lt_ne3 (by assumption) (by omega))
  k_with "my enter C" => (refine' code_defC ?k1 ?k2 ?k3 ?k4 ?k5 ?kA ?kF ?kK ?k6 ?k7 ?k8 ?k9 ?kB ?kD ?_ ?c2 ?c3 ?c4; (case kA => exact rfl); (case kF => exact rfl); (case kK => assumption); (case k1 => k_asm); (case k2 => k_asm); (case k3 => k_asm); (case k4 => k_asm); (case k5 => k_asm); (case k6 => k_is); (case k7 => k_is); (case k8 => ktr_room); (case k9 => exact BindsTo.of_eq rfl); (case kB => exact rfl); (case kD => decide +kernel); (case c2 => exact rfl); (case c3 => exact rfl); (case c4 => exact rfl); k_whole; intro _ _ _ _ _ _ _ N' Y' B' _ _ l1; (have l2 := l1); (try k_lt l1); k_cells Y'; (try simp only [List.cons_append, List.nil_append] at N'); (try dsimp only); (try k_lift B'); (try k_fold); (have N' := True.intro); (have Y' := True.intro); (have B' := True.intro); (have l1 := True.intro); (have l2 := True.intro))
  k_with "my subscriptTail" => (k_here; (with_reducible show wpAny _ _ (subscriptTail (PySem.Expr.List _ _) _ (Value.ref _) (Value.int _ _)) _ _ _); (with_unfolding_all (first | (refine' item_menuB 1 65535 ?k1 ?k2 ?k3 ?k4 ?k5 ?kb ?_; (case k1 => is_list); (case k2 => l_ints); (case kb => decide); (case k3 => l_idx); (case k4 => l_idx); (case k5 => l_idx); k_whole) | (refine' item_menuB (-7) 130 ?k1 ?k2 ?k3 ?k4 ?k5 ?kb ?_; (case k1 => is_list); (case k2 => l_ints); (case kb => decide); (case k3 => l_idx); (case k4 => l_idx); (case k5 => l_idx); k_whole))); intro _ _ _ _)
  k_with "my eval ListComp" => (k_here; k_dflt (refine LCg.ListComp_U (F₀ := by k_asm) (by with_unfolding_all rfl) (by decide) (by rfl) (by decide) (by rfl) ?_))
  k_with "my CompSrc" => (k_here; k_dflt (refine LCg.CompSrc.range (by rfl) (by k_asm) (by k_asm) (by assumption) (by first | exact small_one (by kcf_bnd) (by kcf_bnd) (by kcf_bnd) (by kcf_bnd) | decide) (by first | exact rangeSize_nat _ _ | rfl) (by first | (rw [PySem.sizeLine_eq]; omega) | (rw [PySem.sizeLine_eq]; (simp only [List.size_toArray]); omega) | size_fits) ?_; intro _))
  k_with "my CompRest" => (fail "mine")
  k_with "my call ref" => (k_here; (with_reducible show wpAny _ _ (call (Value.ref 86) _) _ _ _); k_dflt (refine' nearest_ok ?k1 ?k2 ?k3 ?k4 ?k5 ?kK ?ka ?kb ?kd ?ku ?_; (case k2 => k_asm); (case k1 => k_asm); (case k3 => k_asm); (case k4 => k_asm); (case k5 => k_asm); (case kK => first | exact rfl | assumption); (case ka => omega); (case kb => omega); (case kd => ktr_room); (case ku => ktr_units); intro _ _ _ _ _; (try dsimp only); (try k_fold)))
  trivial
set_option maxRecDepth 100000 in
set_option maxHeartbeats 8000000 in
theorem req_ok {w : World} {p : Program} {loose : List Str} {mean : ExcName → Option Value} {mg mb : Str → Option Value}
    {dp un : Nat} {gd : Option (List Code)} {cn : Str} {cs : Scope} {a : Addr} {ccd : Value} {cl : List (Str × Addr)} {outer : List Env} {A₀ : Around} {base h₀ : Heap} {L : Addr} {m : Str → Option Value} {s : Shared} {Q E : Value → Shared → Prop}
    {row qt ot : Addr} {rvs qvs ovs : List Value} {rs qs os : List Int} {n : Nat} {news : List (Addr × Obj)}
    (B : Below A₀ base outer h₀) (F : Fr h₀ L s.heap m) (X : (Mine.hd.heap_39 w.params).In h₀) (N : News h₀ L s.heap ((row, listOf rvs.toArray n) :: (qt, tupOf qvs) :: (ot, tupOf ovs) :: news)) (T : Top p loose mean mg mb h₀)
    (hk : cs.kind = .function) (hI : IntsAre rvs rs) (hJ : IntsAre qvs qs) (hO : IntsAre ovs os) (hl : rs.length ≤ 9) (hl2 : qs.length = rs.length) (hl3 : os.length = rs.length) (hq : ∀ v ∈ qs, 1 ≤ v ∧ v ≤ 65535) (hq3 : ∀ v ∈ os, 1 ≤ v ∧ v ≤ 65535) (hd : dp + 8 < recursionLimit) (hu : un + 100 < cLine)
    (ret : ∀ r vs n' h' tk', Fr h₀ L h' m → News h₀ L h' ((r, listOf vs.toArray n') :: (row, listOf rvs.toArray n) :: (qt, tupOf qvs) :: (ot, tupOf ovs) :: news) → IntsAre vs ((rangeKs 0 rs.length).map fun k => nr (rs.getD k.toNat 0 * qs.getD k.toNat 0) (os.getD k.toNat 0)) → LCg.Off1 r news → Q (.ref r) { s with heap := h', toks := tk' }) :
    wpAny (model PySem.Challenge.rw_nt0538_01.row.prog w) (ktrTop dp un gd cn cs L a ccd cl outer) (call (.ref 103) [.ref row, .ref qt, .ref ot]) Q E s := by
  revert X; k_fill; intro X
  refine wpAny_call ?_
  k_dflt (walk_at "enter C")
  k_steps
  refine kcf_range (fun k => nr (rs.getD k.toNat 0 * qs.getD k.toNat 0) (os.getD k.toNat 0)) (fun k t I oI C oC D m₂ ys h tk E' h1 h2 hC hx F' N' off ne hM => ?_) (fun ys hys => ?_)
  · have hb := getD_ok (k := k) hq h1 (by omega)
    have hb2 := getD_ok (k := k) hq3 h1 (by omega)
    (try k_fold)
    k_steps
  · unfold LCg.FinE
    intro D' h' tk' F' N' o1'
    have o2 := off1_mem o1'
    k_steps
    have e9 : ((rs.length : Int) - 0).toNat = rs.length := by omega
    rw [e9] at hys
    exact ret _ ys _ _ _ (by k_asm) (cb_drop (by k_asm) (by kcf_all)) hys o1'.2.2.2.2.2.2
end
-- F1
theorem words_6 : True := by
  k_with_none
  k_with "own k_all" => (assumption)
  k_with "my subscriptTail Name Constant ref int" => (k_here; (with_reducible show wpAny _ _ (subscriptTail _ _ (Value.ref _) (Value.int _ _)) _ _ _); (with_unfolding_all refine' item_litK ?k1 ?k2 ?k3 ?k4 ?_ ?k6; (case k1 => is_list); (case k2 => decide); (case k3 => decide); (case k4 => rfl); (case k6 => with_unfolding_all rfl); k_whole))
  k_with "my take asks" => ( (case k2 => k_asm); (case k1 => k_asm); (case k3 => k_asm); (case k5 => k_asm); (case kK => first | exact rfl | assumption); (case kr => k_all); (case kx => assumption); (case ky => assumption); (case ky2 => assumption); (case kt => first | decide | omega); (case kt2 => first | decide | omega); (case kd => ktr_room); (case ku => ktr_units); intro _ _ _ _ _ _ _ _ _ _ N' _ _ _ _ _; (try simp only [List.nil_append, List.cons_append] at N'); (try dsimp only); (try k_fold); (have N' := True.intro))
  k_with "my call ref" => (k_here; (with_reducible show wpAny _ _ (call (Value.ref 124) _) _ _ _); k_dflt (first | (refine' take_call (pre := []) ?k1 ?k2 ?k3 ?k4 ?k5 ?kK ?kr ?kx ?ky ?ky2 ?kt ?kt2 ?kd ?ku ?_; (case k4 => assumption); walk_at "take asks") | (refine' take_call (pre := [_]) ?k1 ?k2 ?k3 ?k4 ?k5 ?kK ?kr ?kx ?ky ?ky2 ?kt ?kt2 ?kd ?ku ?_; (case k4 => assumption); walk_at "take asks") | (refine' take_call (pre := [_, _]) ?k1 ?k2 ?k3 ?k4 ?k5 ?kK ?kr ?kx ?ky ?ky2 ?kt ?kt2 ?kd ?ku ?_; (case k4 => assumption); walk_at "take asks") | (refine' take_call (pre := [_, _, _]) ?k1 ?k2 ?k3 ?k4 ?k5 ?kK ?kr ?kx ?ky ?ky2 ?kt ?kt2 ?kd ?ku ?_; (case k4 => assumption); walk_at "take asks") | (refine' take_call (pre := [_, _, _, _]) ?k1 ?k2 ?k3 ?k4 ?k5 ?kK ?kr ?kx ?ky ?ky2 ?kt ?kt2 ?kd ?ku ?_; (case k4 => assumption); walk_at "take asks") | (refine' take_call (pre := [_, _, _, _, _]) ?k1 ?k2 ?k3 ?k4 ?k5 ?kK ?kr ?kx ?ky ?ky2 ?kt ?kt2 ?kd ?ku ?_; (case k4 => assumption); walk_at "take asks") | (refine' take_call (pre := [_, _, _, _, _, _]) ?k1 ?k2 ?k3 ?k4 ?k5 ?kK ?kr ?kx ?ky ?ky2 ?kt ?kt2 ?kd ?ku ?_; (case k4 => assumption); walk_at "take asks")))
  k_with "own k_all" => (first | assumption | exact lt_ne0 (by assumption) (by omega) | exact lt_ne1 (by assumption) (by omega) | exact lt_ne2 (by assumption) (by omega) | exact lt_ne3 (by assumption) (by omega))
  k_with "my enter C" => (refine' code_defC ?k1 ?k2 ?k3 ?k4 ?k5 ?kA ?kF ?kK ?k6 ?k7 ?k8 ?k9 ?kB ?kD ?_ ?c2 ?c3 ?c4; (case kA => exact rfl); (case kF => exact rfl); (case kK => assumption); (case k1 => k_asm); (case k2 => k_asm); (case k3 => k_asm); (case k4 => k_asm); (case k5 => k_asm); (case k6 => k_is); (case k7 => k_is); (case k8 => ktr_room); (case k9 => exact BindsTo.of_eq rfl); (case kB => exact rfl); (case kD => decide +kernel); (case c2 => exact rfl); (case c3 => exact rfl); (case c4 => exact rfl); k_whole; intro _ _ _ _ _ _ _ N' Y' B' _ _ l1; (have l2 := l1); (try k_lt l1); k_cells Y'; (try simp only [List.cons_append, List.nil_append] at N'); (try dsimp only); (try k_lift B'); (try k_fold); (have N' := True.intro); (have Y' := True.intro); (have B' := True.intro); (have l1 := True.intro); (have l2 := True.intro))
  k_with "my subscriptTail" => (k_here; (with_reducible show wpAny _ _ (subscriptTail (PySem.Expr.List _ _) _ (Value.ref _) (Value.int _ _)) _ _ _); (with_unfolding_all (first | (refine' item_menuB 1 65535 ?k1 ?k2 ?k3 ?k4 ?k5 ?kb ?_; (case k1 => is_list); (case k2 => l_ints); (case kb => decide); (case k3 => l_idx); (case k4 => l_idx); (case k5 => l_idx); k_whole) | (refine' item_menuB (-7) 130 ?k1 ?k2 ?k3 ?k4 ?k5 ?kb ?_; (case k1 => is_list); (case k2 => l_ints); (case kb => decide); (case k3 => l_idx); (case k4 => l_idx); (case k5 => l_idx); k_whole))); intro _ _ _ _)
  k_with "my eval ListComp" => (k_here; k_dflt (refine LCg.ListComp_U (F₀ := by k_asm) (by with_unfolding_all rfl) (by decide) (by rfl) (by decide) (by rfl) ?_))
  k_with "my CompSrc" => (k_here; k_dflt (refine LCg.CompSrc.range (by rfl) (by k_asm) (by k_asm) (by assumption) (by first | exact small_one (by kcf_bnd) (by kcf_bnd) (by kcf_bnd) (by kcf_bnd) | decide) (by first | exact rangeSize_nat _ _ | rfl) (by first | (rw [PySem.sizeLine_eq]; omega) | (rw [PySem.sizeLine_eq]; (simp only [List.size_toArray]); omega) | size_fits) ?_; intro _))
  k_with "my CompRest" => (fail "mine")
  trivial
def Stop (P : Prop) : Prop := P
theorem Stop.mk {P : Prop} (h : Stop P) : P := h
theorem allLt_ne {d : Nat} : ∀ {l : List (Addr × Obj)}, AllLt d l → ∀ p ∈ l, p.1 ≠ d
  | [], _, _, h => nomatch h
  | _ :: _, x, p, h => by
    rcases List.mem_cons.mp h with rfl | h
    · exact Nat.ne_of_lt x.1
    · exact allLt_ne x.2 p h
def MapBut (st : List Str) (m₀ m : Str → Option Value) : Prop := ∃ u : Str → Option Value, m = fun y => if st.contains y then u y else m₀ y
theorem MapBut.self {st : List Str} {m₀ : Str → Option Value} : MapBut st m₀ m₀ := ⟨m₀, by funext y; split <;> rfl⟩
theorem MapBut.of {st : List Str} {m₀ m : Str → Option Value} (h : ∀ y, st.contains y = false → m y = m₀ y) : MapBut st m₀ m :=
  ⟨m, by funext y; by_cases hy : st.contains y = true
         · rw [if_pos hy]
         · rw [if_neg hy]; exact h y (by simpa using hy)⟩
theorem foldl_snoc {f : Int → Int} : ∀ (l acc : List Int), l.foldl (fun c k => c ++ [f k]) acc = acc ++ l.map f
  | [], acc => by simp
  | x :: r, acc => by rw [List.foldl_cons, foldl_snoc r]; simp
theorem mul_bd {a b : Int} (h1 : 1 ≤ a) (h2 : a ≤ 65535) (h3 : 1 ≤ b) (h4 : b ≤ 8) : 1 ≤ a * b ∧ a * b ≤ 524280 := by
  have e : 1 * 1 ≤ a * b := Int.mul_le_mul h1 h3 (by omega) (by omega)
  have e2 : a * b ≤ 65535 * 8 := Int.mul_le_mul h2 h4 (by omega) (by decide)
  omega
theorem iter_rangeJ {prog : Program} {w : World} {A : Around} {E : Value → Shared → Prop} {s : Shared} {env : Env} {h₀ : Heap} {x : Str} {body : List Stmt} {Q : Flow → Shared → Prop}
    {r : Addr} {a₀ b₀ c₀ : Int} {t₀ u₀ v₀ : Tok} {n : Nat} {m₀ : Str → Option Value} {news : List (Addr × Obj)} (J : Nat → (Str → Option Value) → List (Addr × Obj) → Prop)
    (hh : A.handled = none) (hr : IsRange s.heap r a₀ b₀ c₀ t₀ u₀ v₀) (hsmall : Builtin.Range.small a₀ b₀ c₀ = true) (hn : Builtin.Range.rangeSize a₀ b₀ c₀ = (n : Int)) (F : Fr h₀ env.locals s.heap m₀) (N : News h₀ env.locals s.heap news) (hJ : J 0 m₀ news)
    (turn : ∀ i t m₁ nx h tk own, i < n → OwnOff own (news.map (·.1)) → J i m₁ nx → Fr h₀ env.locals h (fun y => if y = x then some (.int (a₀ + (i : Nat) * c₀) t) else m₁ y) → News h₀ env.locals h (nx ++ own) →
      wpAny (model prog w) A (execs body env) (InvPostN h₀ env.locals (J (i + 1)) own (news.map (·.1)) { s with heap := h, toks := tk } Q) E { s with heap := h, toks := tk })
    (done : ∀ m₁ nx h tk, J n m₁ nx → Fr h₀ env.locals h m₁ → News h₀ env.locals h nx → Q .next { s with heap := h, toks := tk }) :
    wpAny (model prog w) A (pyIter (.ref r)) (fun it s₂ => LoopAtV prog w A h₀ env x body Q E it s₂) E s := by
  have hnew : ∀ b, b ∈ [s.heap.objs.size] → b = s.heap.objs.size := fun b hb => List.mem_singleton.mp hb
  have hold : ∀ p ∈ news, p.1 ∉ [s.heap.objs.size] := fun p hp hm => absurd (Heap.lt_size (N p hp).1) (by rw [hnew _ hm]; exact Nat.lt_irrefl _)
  refine wpAny_pyIter_range hr hsmall (loop_invN J (Walks.range hh s.heap.objs.size a₀ c₀ n) ?_ ?_ hold hold ?_ (F.push _) (N.grown fun _ _ e => Heap.get?_push_of_some _ e) hJ ?_ done)
  · intro hm
    exact absurd F.ns.lt (by rw [hnew _ hm]; exact Nat.lt_irrefl _)
  · intro b hb
    rw [hnew _ hb]
    exact next_is_new F
  · show IsRangeIter _ _ _ _ _
    rw [hn]
    simpa using Heap.get?_push_size _ rfl
  · rintro i v m₁ nx h tk own hi ⟨t, rfl⟩ _ hoff hj F' N'
    exact turn i t m₁ nx h tk own hi hoff hj F' N'
theorem rangeKs_succ (a : Int) (n : Nat) : rangeKs a (n + 1) = rangeKs a n ++ [a + (n : Int)] := by
  unfold rangeKs; rw [List.range_succ, List.map_append]; rfl
def QuR (st : List Str) (m₀ : Str → Option Value) (fd : Addr) (bs : List (Addr × Obj)) (f : Int → Int) (i : Nat) (m : Str → Option Value) (nx : List (Addr × Obj)) : Prop :=
  MapBut st m₀ m ∧ ∃ vs n, IntsAre vs ((rangeKs 0 i).map f) ∧ nx = (fd, listOf vs.toArray n) :: bs
theorem qu_end {h₀ h' : Heap} {L fd : Addr} {m' m₀ : Str → Option Value} {st : List Str} {vs : List Value} {v k9 : Int} {t : Tok} {i kk tk : Nat} {f : Int → Int} {r1 r2 : Addr × Obj} {news own rst : List (Addr × Obj)} {s₁ : Shared}
    (F : Fr h₀ L h' m') (N : News h₀ L h' ((fd, listOf (vs.toArray.push (.int v t)) kk) :: r1 :: r2 :: rst)) (hm : ∀ y, st.contains y = false → m' y = m₀ y) (hv : IntsAre vs ((rangeKs 0 i).map f)) (hf : v = f k9) (hk9 : k9 = 0 + (i : Nat) * 1) (hrst : rst = news ++ own) :
    InvEndN h₀ L (QuR st m₀ fd (r1 :: r2 :: news) f (i + 1)) own (fd :: r1.1 :: r2.1 :: news.map (·.1)) s₁ { s₁ with heap := h', toks := tk } := by
  subst hrst
  rw [List.push_toArray] at N
  refine ⟨h', tk, m', _, (fd, listOf (vs ++ [Value.int v t]).toArray kk) :: r1 :: r2 :: news, rfl, F, N, fun p hp => ?_, fun p hp => ?_, rfl, MapBut.of hm, vs ++ [Value.int v t], kk, ?_, rfl⟩
  · simp only [List.mem_cons, List.mem_append] at hp ⊢
    rcases hp with h | h | h | h
    · exact .inl h
    · exact .inr (.inl h)
    · exact .inr (.inr (.inl h))
    · exact .inr (.inr (.inr (.inl h)))
  · exact .tail _ (.tail _ (.tail _ (List.mem_append.mpr (.inr hp))))
  · rw [rangeKs_succ, List.map_append]
    refine IntsAre.append hv ?_
    have e : (0 : Int) + (i : Nat) = k9 := by omega
    rw [hf]
    simp only [List.map_cons, List.map_nil, e]
    exact .cons _ _ .nil
section
theorem words_7 : True := by
  k_with_none
  k_with "own k_all" => (assumption)
  k_with "my subscriptTail Name Constant ref int" => (k_here; (with_reducible show wpAny _ _ (subscriptTail _ _ (Value.ref _) (Value.int _ _)) _ _ _); (with_unfolding_all refine' item_litK ?k1 ?k2 ?k3 ?k4 ?_ ?k6; (case k1 => is_list); (case k2 => decide); (case k3 => decide); (case k4 => rfl); (case k6 => with_unfolding_all rfl); k_whole))
  k_with "my take asks" => ( (case k2 => k_asm); (case k1 => k_asm); (case k3 => k_asm); (case k5 => k_asm); (case kK => first | exact rfl | assumption); (case kr => k_all); (case kx => assumption); (case ky => assumption); (case ky2 => assumption); (case kt => first | decide | omega); (case kt2 => first | decide | omega); (case kd => ktr_room); (case ku => ktr_units); intro _ _ _ _ _ _ _ _ _ _ N' _ _ _ _ _; (try simp only [List.nil_append, List.cons_append] at N'); (try dsimp only); (try k_fold); (have N' := True.intro))
  k_with "my call ref" => (k_here; (with_reducible show wpAny _ _ (call (Value.ref 124) _) _ _ _); k_dflt (first | (refine' take_call (pre := []) ?k1 ?k2 ?k3 ?k4 ?k5 ?kK ?kr ?kx ?ky ?ky2 ?kt ?kt2 ?kd ?ku ?_; (case k4 => assumption); walk_at "take asks") | (refine' take_call (pre := [_]) ?k1 ?k2 ?k3 ?k4 ?k5 ?kK ?kr ?kx ?ky ?ky2 ?kt ?kt2 ?kd ?ku ?_; (case k4 => assumption); walk_at "take asks") | (refine' take_call (pre := [_, _]) ?k1 ?k2 ?k3 ?k4 ?k5 ?kK ?kr ?kx ?ky ?ky2 ?kt ?kt2 ?kd ?ku ?_; (case k4 => assumption); walk_at "take asks") | (refine' take_call (pre := [_, _, _]) ?k1 ?k2 ?k3 ?k4 ?k5 ?kK ?kr ?kx ?ky ?ky2 ?kt ?kt2 ?kd ?ku ?_; (case k4 => assumption); walk_at "take asks") | (refine' take_call (pre := [_, _, _, _]) ?k1 ?k2 ?k3 ?k4 ?k5 ?kK ?kr ?kx ?ky ?ky2 ?kt ?kt2 ?kd ?ku ?_; (case k4 => assumption); walk_at "take asks") | (refine' take_call (pre := [_, _, _, _, _]) ?k1 ?k2 ?k3 ?k4 ?k5 ?kK ?kr ?kx ?ky ?ky2 ?kt ?kt2 ?kd ?ku ?_; (case k4 => assumption); walk_at "take asks") | (refine' take_call (pre := [_, _, _, _, _, _]) ?k1 ?k2 ?k3 ?k4 ?k5 ?kK ?kr ?kx ?ky ?ky2 ?kt ?kt2 ?kd ?ku ?_; (case k4 => assumption); walk_at "take asks")))
  k_with "own k_all" => (first | assumption | exact lt_ne0 (by assumption) (by omega) | exact lt_ne1 (by assumption) (by omega) | exact lt_ne2 (by assumption) (by omega) | exact lt_ne3 (by assumption) (by omega))
  k_with "my enter C" => (refine' code_defC ?k1 ?k2 ?k3 ?k4 ?k5 ?kA ?kF ?kK ?k6 ?k7 ?k8 ?k9 ?kB ?kD ?_ ?c2 ?c3 ?c4; (case kA => exact rfl); (case kF => exact rfl); (case kK => assumption); (case k1 => k_asm); (case k2 => k_asm); (case k3 => k_asm); (case k4 => k_asm); (case k5 => k_asm); (case k6 => k_is); (case k7 => k_is); (case k8 => ktr_room); (case k9 => exact BindsTo.of_eq rfl); (case kB => exact rfl); (case kD => decide +kernel); (case c2 => exact rfl); (case c3 => exact rfl); (case c4 => exact rfl); k_whole; intro _ _ _ _ _ _ _ N' Y' B' _ _ l1; (have l2 := l1); (try k_lt l1); k_cells Y'; (try simp only [List.cons_append, List.nil_append] at N'); (try dsimp only); (try k_lift B'); (try k_fold); (have N' := True.intro); (have Y' := True.intro); (have B' := True.intro); (have l1 := True.intro); (have l2 := True.intro))
  k_with "my subscriptTail" => (k_here; (with_reducible show wpAny _ _ (subscriptTail (PySem.Expr.List _ _) _ (Value.ref _) (Value.int _ _)) _ _ _); (with_unfolding_all (first | (refine' item_menuB 1 65535 ?k1 ?k2 ?k3 ?k4 ?k5 ?kb ?_; (case k1 => is_list); (case k2 => l_ints); (case kb => decide); (case k3 => l_idx); (case k4 => l_idx); (case k5 => l_idx); k_whole) | (refine' item_menuB (-7) 130 ?k1 ?k2 ?k3 ?k4 ?k5 ?kb ?_; (case k1 => is_list); (case k2 => l_ints); (case kb => decide); (case k3 => l_idx); (case k4 => l_idx); (case k5 => l_idx); k_whole))); intro _ _ _ _)
  k_with "my eval ListComp" => (k_here; k_dflt (refine LCg.ListComp_U (F₀ := by k_asm) (by with_unfolding_all rfl) (by decide) (by rfl) (by decide) (by rfl) ?_))
  k_with "my CompSrc" => (k_here; k_dflt (refine LCg.CompSrc.range (by rfl) (by k_asm) (by k_asm) (by assumption) (by first | exact small_one (by kcf_bnd) (by kcf_bnd) (by kcf_bnd) (by kcf_bnd) | decide) (by first | exact rangeSize_nat _ _ | rfl) (by first | (rw [PySem.sizeLine_eq]; omega) | (rw [PySem.sizeLine_eq]; (simp only [List.size_toArray]); omega) | size_fits) ?_; intro _))
  k_with "my CompRest" => (fail "mine")
  k_with "my pyIter ref" => (k_here; (with_reducible show wpAny _ _ (pyIter (Value.ref _)) (fun it s₂ => LoopAtV _ _ _ _ _ _ _ _ _ it s₂) _ _); refine Stop.mk ?_)
  k_with "my InvEndN" => (refine Stop.mk ?_)
  trivial
set_option maxRecDepth 100000 in
set_option maxHeartbeats 8000000 in
theorem quant_ok {w : World} {p : Program} {loose : List Str} {mean : ExcName → Option Value} {mg mb : Str → Option Value}
    {dp un : Nat} {gd : Option (List Code)} {cn : Str} {cs : Scope} {a : Addr} {ccd : Value} {cl : List (Str × Addr)} {outer : List Env} {A₀ : Around} {base h₀ : Heap} {L : Addr} {m : Str → Option Value} {s : Shared} {Q E : Value → Shared → Prop}
    {row qt : Addr} {rvs qvs : List Value} {rs qs : List Int} {sc : Int} {tsc : Tok} {n : Nat} {news : List (Addr × Obj)}
    (B : Below A₀ base outer h₀) (F : Fr h₀ L s.heap m) (X : (Mine.hd.heap_39 w.params).In h₀) (N : News h₀ L s.heap ((row, listOf rvs.toArray n) :: (qt, tupOf qvs) :: news)) (T : Top p loose mean mg mb h₀)
    (hk : cs.kind = .function) (hI : IntsAre rvs rs) (hJ : IntsAre qvs qs) (hl : rs.length ≤ 9) (hl2 : qs.length = rs.length) (hq : ∀ v ∈ qs, 1 ≤ v ∧ v ≤ 65535) (hs1 : 1 ≤ sc) (hs2 : sc ≤ 8) (hd : dp + 8 < recursionLimit) (hu : un + 100 < cLine)
    (ret : ∀ r vs n' h' tk', Fr h₀ L h' m → News h₀ L h' ((r, listOf vs.toArray n') :: (row, listOf rvs.toArray n) :: (qt, tupOf qvs) :: news) → IntsAre vs ((rangeKs 0 rs.length).map fun k => nr (rs.getD k.toNat 0) (qs.getD k.toNat 0 * sc)) → LCg.Off1 r news → Q (.ref r) { s with heap := h', toks := tk' }) :
    wpAny (model PySem.Challenge.rw_nt0538_01.row.prog w) (ktrTop dp un gd cn cs L a ccd cl outer) (call (.ref 93) [.ref row, .ref qt, .int sc tsc]) Q E s := by
  revert X; k_fill; intro X
  refine wpAny_call ?_
  k_dflt cell_enter
  k_steps
  unfold Stop
  (rename IsRange _ _ _ _ _ _ _ _ => hR9)
  (rename News _ _ _ _ => N9)
  (rename Fr _ _ _ _ => F9)
  (rename _ ∧ _ ∧ AllLt _ _ => l9)
  have fn9 := allLt_ne l9.2.2
  refine iter_rangeJ (QuR [Str.ofString "place", Str.ofString "number", Str.ofString "divisor", Str.ofString "many"] _ _ _ (fun k => nr (rs.getD k.toNat 0) (qs.getD k.toNat 0 * sc))) (by rfl) hR9 (by exact small_one (by kcf_bnd) (by kcf_bnd) (by kcf_bnd) (by kcf_bnd)) (rangeSize_nat _ _) F9 N9 ⟨MapBut.self, [], 0, .nil, rfl⟩ ?turn ?done
  case turn =>
    rintro i t m₁ nx h tk own hi9 hoff ⟨⟨u, rfl⟩, vs, n', hv, rfl⟩ F' N'
    have hvl := hv.length
    simp only [List.length_map, rangeKs_length] at hvl
    obtain ⟨k, hk9⟩ : ∃ k : Int, k = 0 + (i : Nat) * 1 := ⟨_, rfl⟩
    rw [← hk9] at F'
    have hb := getD_ok (k := k) hq (by omega) (by omega)
    have hps := mul_bd hb.1 hb.2 hs1 hs2
    have hno : ∀ p ∈ news ++ own, p.1 ≠ _ := fun p hp => (List.mem_append.mp hp).elim (fn9 p) (fun h => hoff p h _ (.head _))
    simp only [List.cons_append] at N'
    obtain ⟨rst, hrst⟩ : ∃ rst, rst = news ++ own := ⟨_, rfl⟩
    rw [← hrst] at N' hno
    have hsz : vs.length ≤ 9 := by omega
    (try k_fold)
    k_steps
    all_goals unfold Stop
    all_goals refine qu_end (by k_asm) (by k_asm) ?_ hv ?_ hk9 hrst
    all_goals first
      | (intro y hy
         have h1 : y ≠ Str.ofString "place" := by rintro rfl; exact absurd hy (by decide)
         have h2 : y ≠ Str.ofString "number" := by rintro rfl; exact absurd hy (by decide)
         have h3 : y ≠ Str.ofString "divisor" := by rintro rfl; exact absurd hy (by decide)
         have h4 : y ≠ Str.ofString "many" := by rintro rfl; exact absurd hy (by decide)
         simp only [h1, h2, h3, h4, if_false, hy, Bool.false_eq_true])
      | (have hx : rs.getD k.toNat 0 < 0 := by assumption
         simp only [nr, if_pos hx])
      | (have hx : ¬ rs.getD k.toNat 0 < 0 := by assumption
         simp only [nr, if_neg hx])
  case done =>
    rintro m₁ nx h tk ⟨⟨u, rfl⟩, vs, n', hv, rfl⟩ F' N'
    k_steps
    have e9 : ((rs.length : Int) - 0).toNat = rs.length := by omega
    rw [e9] at hv
    exact ret _ vs _ _ _ (by k_asm) (cb_drop (by k_asm) (by kcf_all)) hv (off1_of fn9)
end
-- G1
theorem words_8 : True := by
  k_with_none
  k_with "own k_all" => (assumption)
  k_with "my subscriptTail Name Constant ref int" => (k_here; (with_reducible show wpAny _ _ (subscriptTail _ _ (Value.ref _) (Value.int _ _)) _ _ _); (with_unfolding_all refine' item_litK ?k1 ?k2 ?k3 ?k4 ?_ ?k6; (case k1 => is_list); (case k2 => decide); (case k3 => decide); (case k4 => rfl); (case k6 => with_unfolding_all rfl); k_whole))
  k_with "my take asks" => ( (case k2 => k_asm); (case k1 => k_asm); (case k3 => k_asm); (case k5 => k_asm); (case kK => first | exact rfl | assumption); (case kr => k_all); (case kx => assumption); (case ky => assumption); (case ky2 => assumption); (case kt => first | decide | omega); (case kt2 => first | decide | omega); (case kd => ktr_room); (case ku => ktr_units); intro _ _ _ _ _ _ _ _ _ _ N' _ _ _ _ _; (try simp only [List.nil_append, List.cons_append] at N'); (try dsimp only); (try k_fold); (have N' := True.intro))
  k_with "my call ref" => (k_here; (with_reducible show wpAny _ _ (call (Value.ref 124) _) _ _ _); k_dflt (first | (refine' take_call (pre := []) ?k1 ?k2 ?k3 ?k4 ?k5 ?kK ?kr ?kx ?ky ?ky2 ?kt ?kt2 ?kd ?ku ?_; (case k4 => assumption); walk_at "take asks") | (refine' take_call (pre := [_]) ?k1 ?k2 ?k3 ?k4 ?k5 ?kK ?kr ?kx ?ky ?ky2 ?kt ?kt2 ?kd ?ku ?_; (case k4 => assumption); walk_at "take asks") | (refine' take_call (pre := [_, _]) ?k1 ?k2 ?k3 ?k4 ?k5 ?kK ?kr ?kx ?ky ?ky2 ?kt ?kt2 ?kd ?ku ?_; (case k4 => assumption); walk_at "take asks") | (refine' take_call (pre := [_, _, _]) ?k1 ?k2 ?k3 ?k4 ?k5 ?kK ?kr ?kx ?ky ?ky2 ?kt ?kt2 ?kd ?ku ?_; (case k4 => assumption); walk_at "take asks") | (refine' take_call (pre := [_, _, _, _]) ?k1 ?k2 ?k3 ?k4 ?k5 ?kK ?kr ?kx ?ky ?ky2 ?kt ?kt2 ?kd ?ku ?_; (case k4 => assumption); walk_at "take asks") | (refine' take_call (pre := [_, _, _, _, _]) ?k1 ?k2 ?k3 ?k4 ?k5 ?kK ?kr ?kx ?ky ?ky2 ?kt ?kt2 ?kd ?ku ?_; (case k4 => assumption); walk_at "take asks") | (refine' take_call (pre := [_, _, _, _, _, _]) ?k1 ?k2 ?k3 ?k4 ?k5 ?kK ?kr ?kx ?ky ?ky2 ?kt ?kt2 ?kd ?ku ?_; (case k4 => assumption); walk_at "take asks")))
  k_with "own k_all" => (first | assumption | exact lt_ne0 (by assumption) (by omega) | exact lt_ne1 (by assumption) (by omega) | exact lt_ne2 (by assumption) (by omega) | exact lt_ne3 (by assumption) (by omega))
  k_with "my enter C" => (refine' code_defC ?k1 ?k2 ?k3 ?k4 ?k5 ?kA ?kF ?kK ?k6 ?k7 ?k8 ?k9 ?kB ?kD ?_ ?c2 ?c3 ?c4; (case kA => exact rfl); (case kF => exact rfl); (case kK => assumption); (case k1 => k_asm); (case k2 => k_asm); (case k3 => k_asm); (case k4 => k_asm); (case k5 => k_asm); (case k6 => k_is); (case k7 => k_is); (case k8 => ktr_room); (case k9 => exact BindsTo.of_eq rfl); (case kB => exact rfl); (case kD => decide +kernel); (case c2 => exact rfl); (case c3 => exact rfl); (case c4 => exact rfl); k_whole; intro _ _ _ _ _ _ _ N' Y' B' _ _ l1; (have l2 := l1); (try k_lt l1); k_cells Y'; (try simp only [List.cons_append, List.nil_append] at N'); (try dsimp only); (try k_lift B'); (try k_fold); (have N' := True.intro); (have Y' := True.intro); (have B' := True.intro); (have l1 := True.intro); (have l2 := True.intro))
  k_with "my subscriptTail" => (k_here; (with_reducible show wpAny _ _ (subscriptTail (PySem.Expr.List _ _) _ (Value.ref _) (Value.int _ _)) _ _ _); (with_unfolding_all (first | (refine' item_menuB 1 65535 ?k1 ?k2 ?k3 ?k4 ?k5 ?kb ?_; (case k1 => is_list); (case k2 => l_ints); (case kb => decide); (case k3 => l_idx); (case k4 => l_idx); (case k5 => l_idx); k_whole) | (refine' item_menuB (-7) 130 ?k1 ?k2 ?k3 ?k4 ?k5 ?kb ?_; (case k1 => is_list); (case k2 => l_ints); (case kb => decide); (case k3 => l_idx); (case k4 => l_idx); (case k5 => l_idx); k_whole))); intro _ _ _ _)
  k_with "my eval ListComp" => (k_here; k_dflt (refine LCg.ListComp_U (F₀ := by k_asm) (by with_unfolding_all rfl) (by decide) (by rfl) (by decide) (by rfl) ?_))
  k_with "my CompSrc" => (k_here; k_dflt (refine LCg.CompSrc.range (by rfl) (by k_asm) (by k_asm) (by assumption) (by first | exact small_one (by kcf_bnd) (by kcf_bnd) (by kcf_bnd) (by kcf_bnd) | decide) (by first | exact rangeSize_nat _ _ | rfl) (by first | (rw [PySem.sizeLine_eq]; omega) | (rw [PySem.sizeLine_eq]; (simp only [List.size_toArray]); omega) | size_fits) ?_; intro _))
  k_with "my CompRest" => (fail "mine")
  trivial
def TupIn (ax : Addr) (its : Array Value) (nw : List (Addr × Obj)) : Prop := ∃ o, (ax, o) ∈ nw ∧ o.cls = .type "tuple" ∧ ∃ n, o.data = .seq its n
theorem TupIn.at {h₀ h : Heap} {L ax : Addr} {its : Array Value} {nw : List (Addr × Obj)} (x : TupIn ax its nw) (N : News h₀ L h nw) : h.IsTuple ax its :=
  let ⟨o, hm, r⟩ := x; ⟨o, (N _ hm).1, r⟩
def TupSrc (prog : Program) (w : World) (A : Around) (h₀ : Heap) (L : Addr) (m : Str → Option Value) (env : Env) (elt : PySem.Expr) (x : Str) (scope : Scope) (cl : List (Str × Addr)) (Q : Value → Shared → Prop) (xv : Value) (s₁ : Shared) : Prop :=
  ∃ ax its news, xv = .ref ax ∧ A.handled = none ∧ Fr h₀ L s₁.heap m ∧ News h₀ L s₁.heap news ∧ TupIn ax its news ∧ its.size ≤ sizeLine ∧
      ∀ g, LCg.CompRest prog w A h₀ L m env elt x scope cl { s₁ with heap := g } (TupIn ax its) (fun i v => its[i]? = some v) (LCg.FinE h₀ L m { s₁ with heap := g } Q) its.size 0 [] news
theorem listComp_tup {prog : Program} {w : World} {A : Around} {E : Value → Shared → Prop} {s : Shared} {h₀ : Heap} {L : Addr} {m : Str → Option Value} {env : Env} {elt iter : PySem.Expr} {x : Str} {px : Pos} {scope : Scope} {cl : List (Str × Addr)} {pos : Pos} {Q : Value → Shared → Prop} (_F₀ : Fr h₀ L s.heap m)
    (hclos : closureFor scope env = pure cl) (hcell : ∀ y ∈ scope.names, y.2 ≠ .cell) (hkind : scope.kind = .function)
    (hnames : ∀ y ∈ scope.names, y.2 = .local → scope.names.lookup y.1 = some .local) (hx : scope.names.lookup x = some .local)
    (h : wpAny (model prog w) A (eval iter env) (TupSrc prog w A h₀ L m env elt x scope cl Q) E s)
    (hs : ∀ x, foldedSetIterable iter env x = pure x := by intro _; rfl) :
    wpAny (model prog w) A (eval (.ListComp elt [⟨.Name x px, iter, [], 0⟩] scope pos) env) Q E s := by
  rw [eval_ListComp]
  refine wpAny_comprehension_free (use := none) rfl hs hclos hkind hnames (wpAny_mono h (fun xv s₁ h₁ => ?_) fun _ _ e => e)
  obtain ⟨ax, its, news, rfl, hh, F, N, S, hsz, R⟩ := h₁
  have hl := S.at N
  have hlt : ax < s₁.heap.objs.size := let ⟨_, e, _⟩ := hl; Heap.lt_size e
  refine wpAny_pyIter_tuple hl ?_
  have up : ∀ b o, s₁.heap.get? b = some o → (s₁.heap.push { cls := .type "tuple_iterator", data := .fields #[.ref ax, .int 0 0] }).get? b = some o := fun b o e => Heap.get?_push_of_some _ e
  refine LCg.block_U (Walks.tuple hh s₁.heap.objs.size ax (Nat.ne_of_lt hlt) its) hsz (fun i h st => let ⟨o, e, _⟩ := st.1; ⟨o, e⟩) ?_ hcell hkind hx ⟨⟨_, Heap.get?_push_size _ rfl, rfl, rfl⟩, hl.push _⟩ ?_
    (F.keeps up) (N.grown up) (Nat.ne_of_lt F.ns.lt) (next_is_new F) (fun p hp => Nat.ne_of_lt (Heap.lt_size (N p hp).1)) S (R _) ?_
  · intro i h h' o nw st e e' _ N' S'
    refine ⟨?_, S'.at N'⟩
    obtain ⟨o', q, r⟩ := st.1
    rw [e] at q
    cases q
    exact ⟨o, e', r⟩
  · intro b hb
    show b < (s₁.heap.push _).objs.size
    rw [Heap.size_push]
    simp only [List.mem_cons, List.not_mem_nil, or_false] at hb
    rcases hb with rfl | rfl
    · exact Nat.lt_succ_self _
    · exact Nat.lt_succ_of_lt hlt
  · intro D C h tk m' ys news' F' N' o1 hn hC₀ hD₀ hCL hDL hCD offC fin
    refine ⟨m', hn, fun h'' hs'' => fin D h'' tk (F'.change hs'' hCL hC₀) (fun p hp => ?_) o1⟩
    refine ⟨hs''.extBut _ _ ?_ (N' p hp).1, (N' p hp).2⟩
    rcases List.mem_cons.mp hp with rfl | hp
    · exact Ne.symm hCD
    · exact offC p hp
def scv (h most x : Int) : Int := max 1 (min most ((x * h + 50).fdiv 100))
def MapJ (f : Int → Int) (ns : List Int) (nw₀ : List (Addr × Obj)) (i : Nat) (ys : List Value) (nw : List (Addr × Obj)) : Prop := nw = nw₀ ∧ IntsAre ys ((ns.take i).map f)
theorem MapJ.succ {f : Int → Int} {ns : List Int} {nw₀ : List (Addr × Obj)} {i : Nat} {ys : List Value} {v y : Int} {t : Tok} (hI : IntsAre ys ((ns.take i).map f)) (hv : ns[i]? = some v) (hy : y = f v) : MapJ f ns nw₀ (i + 1) (ys ++ [.int y t]) nw₀ := by
  refine ⟨rfl, ?_⟩
  rw [List.take_add_one, hv, List.map_append, hy]
  exact IntsAre.append hI (.cons _ _ .nil)
theorem mm_eq (e most : Int) : (if (if e < most then e else most) > 1 then (if e < most then e else most) else 1) = max 1 (min most e) := by
  split <;> split <;> omega
theorem qsc_bd (q : Int) : 0 ≤ qsc q ∧ qsc q ≤ 5000 := by
  unfold qsc
  have h1 : 1 ≤ max 1 (min 100 q) := by omega
  have h2 : max 1 (min 100 q) ≤ 100 := by omega
  generalize max 1 (min 100 q) = k at h1 h2
  split
  · rw [Int.fdiv_eq_ediv_of_nonneg _ (by omega)]
    refine ⟨Int.ediv_nonneg (by decide) (by omega), ?_⟩
    exact Int.ediv_le_self _ (by decide)
  · omega
section
theorem words_9 : True := by
  k_with_none
  k_with "own k_all" => (assumption)
  k_with "my subscriptTail Name Constant ref int" => (k_here; (with_reducible show wpAny _ _ (subscriptTail _ _ (Value.ref _) (Value.int _ _)) _ _ _); (with_unfolding_all refine' item_litK ?k1 ?k2 ?k3 ?k4 ?_ ?k6; (case k1 => is_list); (case k2 => decide); (case k3 => decide); (case k4 => rfl); (case k6 => with_unfolding_all rfl); k_whole))
  k_with "my take asks" => ( (case k2 => k_asm); (case k1 => k_asm); (case k3 => k_asm); (case k5 => k_asm); (case kK => first | exact rfl | assumption); (case kr => k_all); (case kx => assumption); (case ky => assumption); (case ky2 => assumption); (case kt => first | decide | omega); (case kt2 => first | decide | omega); (case kd => ktr_room); (case ku => ktr_units); intro _ _ _ _ _ _ _ _ _ _ N' _ _ _ _ _; (try simp only [List.nil_append, List.cons_append] at N'); (try dsimp only); (try k_fold); (have N' := True.intro))
  k_with "my call ref" => (k_here; (with_reducible show wpAny _ _ (call (Value.ref 124) _) _ _ _); k_dflt (first | (refine' take_call (pre := []) ?k1 ?k2 ?k3 ?k4 ?k5 ?kK ?kr ?kx ?ky ?ky2 ?kt ?kt2 ?kd ?ku ?_; (case k4 => assumption); walk_at "take asks") | (refine' take_call (pre := [_]) ?k1 ?k2 ?k3 ?k4 ?k5 ?kK ?kr ?kx ?ky ?ky2 ?kt ?kt2 ?kd ?ku ?_; (case k4 => assumption); walk_at "take asks") | (refine' take_call (pre := [_, _]) ?k1 ?k2 ?k3 ?k4 ?k5 ?kK ?kr ?kx ?ky ?ky2 ?kt ?kt2 ?kd ?ku ?_; (case k4 => assumption); walk_at "take asks") | (refine' take_call (pre := [_, _, _]) ?k1 ?k2 ?k3 ?k4 ?k5 ?kK ?kr ?kx ?ky ?ky2 ?kt ?kt2 ?kd ?ku ?_; (case k4 => assumption); walk_at "take asks") | (refine' take_call (pre := [_, _, _, _]) ?k1 ?k2 ?k3 ?k4 ?k5 ?kK ?kr ?kx ?ky ?ky2 ?kt ?kt2 ?kd ?ku ?_; (case k4 => assumption); walk_at "take asks") | (refine' take_call (pre := [_, _, _, _, _]) ?k1 ?k2 ?k3 ?k4 ?k5 ?kK ?kr ?kx ?ky ?ky2 ?kt ?kt2 ?kd ?ku ?_; (case k4 => assumption); walk_at "take asks") | (refine' take_call (pre := [_, _, _, _, _, _]) ?k1 ?k2 ?k3 ?k4 ?k5 ?kK ?kr ?kx ?ky ?ky2 ?kt ?kt2 ?kd ?ku ?_; (case k4 => assumption); walk_at "take asks")))
  k_with "own k_all" => (first | assumption | exact lt_ne0 (by assumption) (by omega) | exact lt_ne1 (by assumption) (by omega) | exact lt_ne2 (by assumption) (by omega) | exact lt_ne3 (by assumption) (by omega))
  k_with "my enter C" => (refine' code_defC ?k1 ?k2 ?k3 ?k4 ?k5 ?kA ?kF ?kK ?k6 ?k7 ?k8 ?k9 ?kB ?kD ?_ ?c2 ?c3 ?c4; (case kA => exact rfl); (case kF => exact rfl); (case kK => assumption); (case k1 => k_asm); (case k2 => k_asm); (case k3 => k_asm); (case k4 => k_asm); (case k5 => k_asm); (case k6 => k_is); (case k7 => k_is); (case k8 => ktr_room); (case k9 => exact BindsTo.of_eq rfl); (case kB => exact rfl); (case kD => decide +kernel); (case c2 => exact rfl); (case c3 => exact rfl); (case c4 => exact rfl); k_whole; intro _ _ _ _ _ _ _ N' Y' B' _ _ l1; (have l2 := l1); (try k_lt l1); k_cells Y'; (try simp only [List.cons_append, List.nil_append] at N'); (try dsimp only); (try k_lift B'); (try k_fold); (have N' := True.intro); (have Y' := True.intro); (have B' := True.intro); (have l1 := True.intro); (have l2 := True.intro))
  k_with "my subscriptTail" => (k_here; (with_reducible show wpAny _ _ (subscriptTail (PySem.Expr.List _ _) _ (Value.ref _) (Value.int _ _)) _ _ _); (with_unfolding_all (first | (refine' item_menuB 1 65535 ?k1 ?k2 ?k3 ?k4 ?k5 ?kb ?_; (case k1 => is_list); (case k2 => l_ints); (case kb => decide); (case k3 => l_idx); (case k4 => l_idx); (case k5 => l_idx); k_whole) | (refine' item_menuB (-7) 130 ?k1 ?k2 ?k3 ?k4 ?k5 ?kb ?_; (case k1 => is_list); (case k2 => l_ints); (case kb => decide); (case k3 => l_idx); (case k4 => l_idx); (case k5 => l_idx); k_whole))); intro _ _ _ _)
  k_with "my eval ListComp" => (k_here; k_dflt (refine LCg.ListComp_U (F₀ := by k_asm) (by with_unfolding_all rfl) (by decide) (by rfl) (by decide) (by rfl) ?_))
  k_with "my CompSrc" => (k_here; k_dflt (refine LCg.CompSrc.range (by rfl) (by k_asm) (by k_asm) (by assumption) (by first | exact small_one (by kcf_bnd) (by kcf_bnd) (by kcf_bnd) (by kcf_bnd) | decide) (by first | exact rangeSize_nat _ _ | rfl) (by first | (rw [PySem.sizeLine_eq]; omega) | (rw [PySem.sizeLine_eq]; (simp only [List.size_toArray]); omega) | size_fits) ?_; intro _))
  k_with "my CompRest" => (fail "mine")
  k_with "my call type:tuple" => (k_here; (with_reducible show wpAny _ _ (call (Value.type _) [Value.ref _]) _ _ _); k_dflt (refine' kde_tupleOf ?k1 ?k2 ?k3 ?k4 ?k5 ?_; (case k1 => k_asm); (case k2 => k_asm); (case k3 => exact News.isList (by k_asm) (by k_mem)); (case k4 => (simp only [List.size_toArray]; omega)); (case k5 => exact rfl); k_whole); intro _ _ _ _ l9'; (have l8' := NewAbove.mk l9'); (have l9' := True.intro); (have l8' := True.intro))
  k_with "my eval ListComp" => (k_here; k_dflt (refine listComp_tup (by k_asm) (by with_unfolding_all rfl) (by decide) (by rfl) (by decide) (by rfl) ?_))
  trivial
set_option maxRecDepth 100000 in
set_option maxHeartbeats 8000000 in
theorem scby_ok {w : World} {p : Program} {loose : List Str} {mean : ExcName → Option Value} {mg mb : Str → Option Value}
    {dp un : Nat} {gd : Option (List Code)} {cn : Str} {cs : Scope} {a : Addr} {ccd : Value} {cl : List (Str × Addr)} {outer : List Env} {A₀ : Around} {base h₀ : Heap} {L : Addr} {m : Str → Option Value} {s : Shared} {Q E : Value → Shared → Prop}
    {qt : Addr} {qvs : List Value} {qs : List Int} {h most : Int} {th tm : Tok} {news : List (Addr × Obj)}
    (B : Below A₀ base outer h₀) (F : Fr h₀ L s.heap m) (X : (Mine.hd.heap_39 w.params).In h₀) (N : News h₀ L s.heap ((qt, tupOf qvs) :: news)) (T : Top p loose mean mg mb h₀)
    (hk : cs.kind = .function) (hI : IntsAre qvs qs) (hl : qs.length ≤ 9) (hh1 : 0 ≤ h) (hh2 : h ≤ 5000) (hd : dp + 8 < recursionLimit) (hu : un + 100 < cLine)
    (ret : ∀ r vs h' tk', Fr h₀ L h' m → News h₀ L h' ((r, tupOf vs) :: (qt, tupOf qvs) :: news) → IntsAre vs (qs.map (scv h most)) → LCg.Off1 r news → Q (.ref r) { s with heap := h', toks := tk' }) :
    wpAny (model PySem.Challenge.rw_nt0538_01.row.prog w) (ktrTop dp un gd cn cs L a ccd cl outer) (call (.ref 58) [.ref qt, .int h th, .int most tm]) Q E s := by
  have hvl := hI.length
  revert X; k_fill; intro X
  refine wpAny_call ?_
  k_dflt (walk_at "enter C")
  k_steps
  refine ⟨_, qvs.toArray, _, rfl, by rfl, by k_asm, by k_asm, ⟨_, by k_mem, rfl, _, rfl⟩, by rw [sizeLine_eq, List.size_toArray]; omega, fun g8 => ?_⟩
  refine comp_inv (MapJ (scv h most) qs _) ⟨rfl, .nil⟩ ?turn ?fin
  case turn =>
    rintro i ys nw hi ⟨rfl, hI2⟩ v I' oI' C' oC' D' m' h' tk' E' hv hC' hx' F' N' off' ne'
    simp only [LCg.Off3, List.cons_append, List.nil_append] at off' N'
    obtain ⟨x9, t9, rfl, hx9⟩ := hI.at i v (by simpa using hv)
    (try k_fold)
    k_steps
    refine LCg.CompEnd.intro (by k_asm) (by k_asm) _ (fun p hp => hp) ?_ ?_ ?_
    · exact off'
    · exact ⟨_, by k_mem, rfl, _, rfl⟩
    · exact MapJ.succ hI2 hx9 (mm_eq _ _)
  case fin =>
    rintro ys nw ⟨rfl, hI2⟩
    rw [List.size_toArray, hvl, List.take_length] at hI2
    have hy9 := hI2.length
    rw [List.length_map] at hy9
    k_steps
    (rename NewAbove _ _ => l9)
    exact ret _ ys _ _ (by k_asm) (cb_drop (by k_asm) (by kcf_all)) hI2 (off1_of fun p hp => Nat.ne_of_lt (l9.out p (.tail _ (.tail _ (.tail _ (.tail _ hp))))))
end
section
theorem words_10 : True := by
  k_with_none
  k_with "own k_all" => (assumption)
  k_with "my subscriptTail Name Constant ref int" => (k_here; (with_reducible show wpAny _ _ (subscriptTail _ _ (Value.ref _) (Value.int _ _)) _ _ _); (with_unfolding_all refine' item_litK ?k1 ?k2 ?k3 ?k4 ?_ ?k6; (case k1 => is_list); (case k2 => decide); (case k3 => decide); (case k4 => rfl); (case k6 => with_unfolding_all rfl); k_whole))
  k_with "my take asks" => ( (case k2 => k_asm); (case k1 => k_asm); (case k3 => k_asm); (case k5 => k_asm); (case kK => first | exact rfl | assumption); (case kr => k_all); (case kx => assumption); (case ky => assumption); (case ky2 => assumption); (case kt => first | decide | omega); (case kt2 => first | decide | omega); (case kd => ktr_room); (case ku => ktr_units); intro _ _ _ _ _ _ _ _ _ _ N' _ _ _ _ _; (try simp only [List.nil_append, List.cons_append] at N'); (try dsimp only); (try k_fold); (have N' := True.intro))
  k_with "my call ref" => (k_here; (with_reducible show wpAny _ _ (call (Value.ref 124) _) _ _ _); k_dflt (first | (refine' take_call (pre := []) ?k1 ?k2 ?k3 ?k4 ?k5 ?kK ?kr ?kx ?ky ?ky2 ?kt ?kt2 ?kd ?ku ?_; (case k4 => assumption); walk_at "take asks") | (refine' take_call (pre := [_]) ?k1 ?k2 ?k3 ?k4 ?k5 ?kK ?kr ?kx ?ky ?ky2 ?kt ?kt2 ?kd ?ku ?_; (case k4 => assumption); walk_at "take asks") | (refine' take_call (pre := [_, _]) ?k1 ?k2 ?k3 ?k4 ?k5 ?kK ?kr ?kx ?ky ?ky2 ?kt ?kt2 ?kd ?ku ?_; (case k4 => assumption); walk_at "take asks") | (refine' take_call (pre := [_, _, _]) ?k1 ?k2 ?k3 ?k4 ?k5 ?kK ?kr ?kx ?ky ?ky2 ?kt ?kt2 ?kd ?ku ?_; (case k4 => assumption); walk_at "take asks") | (refine' take_call (pre := [_, _, _, _]) ?k1 ?k2 ?k3 ?k4 ?k5 ?kK ?kr ?kx ?ky ?ky2 ?kt ?kt2 ?kd ?ku ?_; (case k4 => assumption); walk_at "take asks") | (refine' take_call (pre := [_, _, _, _, _]) ?k1 ?k2 ?k3 ?k4 ?k5 ?kK ?kr ?kx ?ky ?ky2 ?kt ?kt2 ?kd ?ku ?_; (case k4 => assumption); walk_at "take asks") | (refine' take_call (pre := [_, _, _, _, _, _]) ?k1 ?k2 ?k3 ?k4 ?k5 ?kK ?kr ?kx ?ky ?ky2 ?kt ?kt2 ?kd ?ku ?_; (case k4 => assumption); walk_at "take asks")))
  k_with "own k_all" => (first | assumption | exact lt_ne0 (by assumption) (by omega) | exact lt_ne1 (by assumption) (by omega) | exact lt_ne2 (by assumption) (by omega) | exact lt_ne3 (by assumption) (by omega))
  k_with "my enter C" => (refine' code_defC ?k1 ?k2 ?k3 ?k4 ?k5 ?kA ?kF ?kK ?k6 ?k7 ?k8 ?k9 ?kB ?kD ?_ ?c2 ?c3 ?c4; (case kA => exact rfl); (case kF => exact rfl); (case kK => assumption); (case k1 => k_asm); (case k2 => k_asm); (case k3 => k_asm); (case k4 => k_asm); (case k5 => k_asm); (case k6 => k_is); (case k7 => k_is); (case k8 => ktr_room); (case k9 => exact BindsTo.of_eq rfl); (case kB => exact rfl); (case kD => decide +kernel); (case c2 => exact rfl); (case c3 => exact rfl); (case c4 => exact rfl); k_whole; intro _ _ _ _ _ _ _ N' Y' B' _ _ l1; (have l2 := l1); (try k_lt l1); k_cells Y'; (try simp only [List.cons_append, List.nil_append] at N'); (try dsimp only); (try k_lift B'); (try k_fold); (have N' := True.intro); (have Y' := True.intro); (have B' := True.intro); (have l1 := True.intro); (have l2 := True.intro))
  k_with "my subscriptTail" => (k_here; (with_reducible show wpAny _ _ (subscriptTail (PySem.Expr.List _ _) _ (Value.ref _) (Value.int _ _)) _ _ _); (with_unfolding_all (first | (refine' item_menuB 1 65535 ?k1 ?k2 ?k3 ?k4 ?k5 ?kb ?_; (case k1 => is_list); (case k2 => l_ints); (case kb => decide); (case k3 => l_idx); (case k4 => l_idx); (case k5 => l_idx); k_whole) | (refine' item_menuB (-7) 130 ?k1 ?k2 ?k3 ?k4 ?k5 ?kb ?_; (case k1 => is_list); (case k2 => l_ints); (case kb => decide); (case k3 => l_idx); (case k4 => l_idx); (case k5 => l_idx); k_whole))); intro _ _ _ _)
  k_with "my eval ListComp" => (k_here; k_dflt (refine LCg.ListComp_U (F₀ := by k_asm) (by with_unfolding_all rfl) (by decide) (by rfl) (by decide) (by rfl) ?_))
  k_with "my CompSrc" => (k_here; k_dflt (refine LCg.CompSrc.range (by rfl) (by k_asm) (by k_asm) (by assumption) (by first | exact small_one (by kcf_bnd) (by kcf_bnd) (by kcf_bnd) (by kcf_bnd) | decide) (by first | exact rangeSize_nat _ _ | rfl) (by first | (rw [PySem.sizeLine_eq]; omega) | (rw [PySem.sizeLine_eq]; (simp only [List.size_toArray]); omega) | size_fits) ?_; intro _))
  k_with "my CompRest" => (fail "mine")
  k_with "my call ref" => (k_here; (with_reducible show wpAny _ _ (call (Value.ref 53) _) _ _ _); k_dflt (refine' qscale_ok ?k1 ?k2 ?k3 ?k4 ?k5 ?kK ?kd ?ku ?_; (case k2 => k_asm); (case k1 => k_asm); (case k3 => k_asm); (case k4 => k_asm); (case k5 => k_asm); (case kK => first | exact rfl | assumption); (case kd => ktr_room); (case ku => ktr_units); intro _ _ _ _ _; (try dsimp only); (try k_fold)))
  k_with "my call ref" => (k_here; (with_reducible show wpAny _ _ (call (Value.ref 58) _) _ _ _); k_dflt (refine' scby_ok ?k1 ?k2 ?k3 ?k4 ?k5 ?kK ?ki ?kl ?ka ?kb ?kd ?ku ?_; (case k2 => k_asm); (case k1 => k_asm); (case k3 => k_asm); (case k4 => k_asm); (case k5 => k_asm); (case kK => first | exact rfl | assumption); (case ki => assumption); (case kl => assumption); (case ka => exact (qsc_bd _).1); (case kb => exact (qsc_bd _).2); (case kd => ktr_room); (case ku => ktr_units); intro _ _ _ _ _ _ _ _; (try dsimp only); (try k_fold)))
  trivial
set_option maxRecDepth 100000 in
set_option maxHeartbeats 8000000 in
theorem sctab_ok {w : World} {p : Program} {loose : List Str} {mean : ExcName → Option Value} {mg mb : Str → Option Value}
    {dp un : Nat} {gd : Option (List Code)} {cn : Str} {cs : Scope} {a : Addr} {ccd : Value} {cl : List (Str × Addr)} {outer : List Env} {A₀ : Around} {base h₀ : Heap} {L : Addr} {m : Str → Option Value} {s : Shared} {Q E : Value → Shared → Prop}
    {qt : Addr} {qvs : List Value} {qs : List Int} {q most : Int} {tq tm : Tok} {news : List (Addr × Obj)}
    (B : Below A₀ base outer h₀) (F : Fr h₀ L s.heap m) (X : (Mine.hd.heap_39 w.params).In h₀) (N : News h₀ L s.heap ((qt, tupOf qvs) :: news)) (T : Top p loose mean mg mb h₀)
    (hk : cs.kind = .function) (hI : IntsAre qvs qs) (hl : qs.length ≤ 9) (hd : dp + 16 < recursionLimit) (hu : un + 200 < cLine)
    (ret : ∀ r vs h' tk', Fr h₀ L h' m → News h₀ L h' ((r, tupOf vs) :: (qt, tupOf qvs) :: news) → IntsAre vs (qs.map (scv (qsc q) most)) → LCg.Off1 r news → Q (.ref r) { s with heap := h', toks := tk' }) :
    wpAny (model PySem.Challenge.rw_nt0538_01.row.prog w) (ktrTop dp un gd cn cs L a ccd cl outer) (call (.ref 65) [.ref qt, .int q tq, .int most tm]) Q E s := by
  revert X; k_fill; intro X
  refine wpAny_call ?_
  k_dflt cell_enter
  k_steps
  exact ret _ _ _ _ (by k_asm) (by k_asm) (by assumption) (by assumption)
end
-- H1
section
open PySem.Spec
variable {prog : Program} {w : World} {A : Around} {E : Value → Shared → Prop} {s : Shared} {a b : Addr} {xs ys : List Value} {ns ms : List Int} {Q : Value → Shared → Prop}
theorem words_11 : True := by
  k_with_none
  k_with "own k_all" => (assumption)
  k_with "my subscriptTail Name Constant ref int" => (k_here; (with_reducible show wpAny _ _ (subscriptTail _ _ (Value.ref _) (Value.int _ _)) _ _ _); (with_unfolding_all refine' item_litK ?k1 ?k2 ?k3 ?k4 ?_ ?k6; (case k1 => is_list); (case k2 => decide); (case k3 => decide); (case k4 => rfl); (case k6 => with_unfolding_all rfl); k_whole))
  k_with "my take asks" => ( (case k2 => k_asm); (case k1 => k_asm); (case k3 => k_asm); (case k5 => k_asm); (case kK => first | exact rfl | assumption); (case kr => k_all); (case kx => assumption); (case ky => assumption); (case ky2 => assumption); (case kt => first | decide | omega); (case kt2 => first | decide | omega); (case kd => ktr_room); (case ku => ktr_units); intro _ _ _ _ _ _ _ _ _ _ N' _ _ _ _ _; (try simp only [List.nil_append, List.cons_append] at N'); (try dsimp only); (try k_fold); (have N' := True.intro))
  k_with "my call ref" => (k_here; (with_reducible show wpAny _ _ (call (Value.ref 124) _) _ _ _); k_dflt (first | (refine' take_call (pre := []) ?k1 ?k2 ?k3 ?k4 ?k5 ?kK ?kr ?kx ?ky ?ky2 ?kt ?kt2 ?kd ?ku ?_; (case k4 => assumption); walk_at "take asks") | (refine' take_call (pre := [_]) ?k1 ?k2 ?k3 ?k4 ?k5 ?kK ?kr ?kx ?ky ?ky2 ?kt ?kt2 ?kd ?ku ?_; (case k4 => assumption); walk_at "take asks") | (refine' take_call (pre := [_, _]) ?k1 ?k2 ?k3 ?k4 ?k5 ?kK ?kr ?kx ?ky ?ky2 ?kt ?kt2 ?kd ?ku ?_; (case k4 => assumption); walk_at "take asks") | (refine' take_call (pre := [_, _, _]) ?k1 ?k2 ?k3 ?k4 ?k5 ?kK ?kr ?kx ?ky ?ky2 ?kt ?kt2 ?kd ?ku ?_; (case k4 => assumption); walk_at "take asks") | (refine' take_call (pre := [_, _, _, _]) ?k1 ?k2 ?k3 ?k4 ?k5 ?kK ?kr ?kx ?ky ?ky2 ?kt ?kt2 ?kd ?ku ?_; (case k4 => assumption); walk_at "take asks") | (refine' take_call (pre := [_, _, _, _, _]) ?k1 ?k2 ?k3 ?k4 ?k5 ?kK ?kr ?kx ?ky ?ky2 ?kt ?kt2 ?kd ?ku ?_; (case k4 => assumption); walk_at "take asks") | (refine' take_call (pre := [_, _, _, _, _, _]) ?k1 ?k2 ?k3 ?k4 ?k5 ?kK ?kr ?kx ?ky ?ky2 ?kt ?kt2 ?kd ?ku ?_; (case k4 => assumption); walk_at "take asks")))
  k_with "own k_all" => (first | assumption | exact lt_ne0 (by assumption) (by omega) | exact lt_ne1 (by assumption) (by omega) | exact lt_ne2 (by assumption) (by omega) | exact lt_ne3 (by assumption) (by omega))
  k_with "my enter C" => (refine' code_defC ?k1 ?k2 ?k3 ?k4 ?k5 ?kA ?kF ?kK ?k6 ?k7 ?k8 ?k9 ?kB ?kD ?_ ?c2 ?c3 ?c4; (case kA => exact rfl); (case kF => exact rfl); (case kK => assumption); (case k1 => k_asm); (case k2 => k_asm); (case k3 => k_asm); (case k4 => k_asm); (case k5 => k_asm); (case k6 => k_is); (case k7 => k_is); (case k8 => ktr_room); (case k9 => exact BindsTo.of_eq rfl); (case kB => exact rfl); (case kD => decide +kernel); (case c2 => exact rfl); (case c3 => exact rfl); (case c4 => exact rfl); k_whole; intro _ _ _ _ _ _ _ N' Y' B' _ _ l1; (have l2 := l1); (try k_lt l1); k_cells Y'; (try simp only [List.cons_append, List.nil_append] at N'); (try dsimp only); (try k_lift B'); (try k_fold); (have N' := True.intro); (have Y' := True.intro); (have B' := True.intro); (have l1 := True.intro); (have l2 := True.intro))
  k_with "my subscriptTail" => (k_here; (with_reducible show wpAny _ _ (subscriptTail (PySem.Expr.List _ _) _ (Value.ref _) (Value.int _ _)) _ _ _); (with_unfolding_all (first | (refine' item_menuB 1 65535 ?k1 ?k2 ?k3 ?k4 ?k5 ?kb ?_; (case k1 => is_list); (case k2 => l_ints); (case kb => decide); (case k3 => l_idx); (case k4 => l_idx); (case k5 => l_idx); k_whole) | (refine' item_menuB (-7) 130 ?k1 ?k2 ?k3 ?k4 ?k5 ?kb ?_; (case k1 => is_list); (case k2 => l_ints); (case kb => decide); (case k3 => l_idx); (case k4 => l_idx); (case k5 => l_idx); k_whole))); intro _ _ _ _)
  k_with "my eval ListComp" => (k_here; k_dflt (refine LCg.ListComp_U (F₀ := by k_asm) (by with_unfolding_all rfl) (by decide) (by rfl) (by decide) (by rfl) ?_))
  k_with "my CompSrc" => (k_here; k_dflt (refine LCg.CompSrc.range (by rfl) (by k_asm) (by k_asm) (by assumption) (by first | exact small_one (by kcf_bnd) (by kcf_bnd) (by kcf_bnd) (by kcf_bnd) | decide) (by first | exact rangeSize_nat _ _ | rfl) (by first | (rw [PySem.sizeLine_eq]; omega) | (rw [PySem.sizeLine_eq]; (simp only [List.size_toArray]); omega) | size_fits) ?_; intro _))
  k_with "my CompRest" => (fail "mine")
  trivial
theorem shaped_tup (ns : List Int) : SeqAt.shaped (.tuple (ns.map PyData.int)) = true := by
  simp [SeqAt.shaped, PyData.canLay0, PyData.depth, ke_canLayAll0, ke_depthAll]
theorem tup_eq (ha : IsTup s.heap a xs.toArray) (hb : IsTup s.heap b ys.toArray) (hi : IntsAre xs ns) (hj : IntsAre ys ms) (hu : A.units + 64 < cLine) (h : Q (.bool (decide (ns = ms))) s) :
    wpAny (model prog w) A (compareOp .Eq (.ref a) (.ref b)) Q E s :=
  eq_dataH_same (reads_newDataT ha (ke_carried hi)) (reads_newDataT hb (ke_carried hj)) (shaped_tup _) (shaped_tup _) hu (by simp only [SeqAt.noMix]; exact noMix_ints ns ms) (by simp only [PySem.Spec.same]; rw [same_ints]; exact h)
theorem tup_ne (ha : IsTup s.heap a xs.toArray) (hb : IsTup s.heap b ys.toArray) (hi : IntsAre xs ns) (hj : IntsAre ys ms) (hu : A.units + 64 < cLine) (h : Q (.bool (!decide (ns = ms))) s) :
    wpAny (model prog w) A (compareOp .NotEq (.ref a) (.ref b)) Q E s :=
  ne_dataH_same (reads_newDataT ha (ke_carried hi)) (reads_newDataT hb (ke_carried hj)) (shaped_tup _) (shaped_tup _) hu (by simp only [SeqAt.noMix]; exact noMix_ints ns ms) (by simp only [PySem.Spec.same]; rw [same_ints]; exact h)
end
section
theorem words_12 : True := by
  k_with_none
  k_with "own k_all" => (assumption)
  k_with "my subscriptTail Name Constant ref int" => (k_here; (with_reducible show wpAny _ _ (subscriptTail _ _ (Value.ref _) (Value.int _ _)) _ _ _); (with_unfolding_all refine' item_litK ?k1 ?k2 ?k3 ?k4 ?_ ?k6; (case k1 => is_list); (case k2 => decide); (case k3 => decide); (case k4 => rfl); (case k6 => with_unfolding_all rfl); k_whole))
  k_with "my take asks" => ( (case k2 => k_asm); (case k1 => k_asm); (case k3 => k_asm); (case k5 => k_asm); (case kK => first | exact rfl | assumption); (case kr => k_all); (case kx => assumption); (case ky => assumption); (case ky2 => assumption); (case kt => first | decide | omega); (case kt2 => first | decide | omega); (case kd => ktr_room); (case ku => ktr_units); intro _ _ _ _ _ _ _ _ _ _ N' _ _ _ _ _; (try simp only [List.nil_append, List.cons_append] at N'); (try dsimp only); (try k_fold); (have N' := True.intro))
  k_with "my call ref" => (k_here; (with_reducible show wpAny _ _ (call (Value.ref 124) _) _ _ _); k_dflt (first | (refine' take_call (pre := []) ?k1 ?k2 ?k3 ?k4 ?k5 ?kK ?kr ?kx ?ky ?ky2 ?kt ?kt2 ?kd ?ku ?_; (case k4 => assumption); walk_at "take asks") | (refine' take_call (pre := [_]) ?k1 ?k2 ?k3 ?k4 ?k5 ?kK ?kr ?kx ?ky ?ky2 ?kt ?kt2 ?kd ?ku ?_; (case k4 => assumption); walk_at "take asks") | (refine' take_call (pre := [_, _]) ?k1 ?k2 ?k3 ?k4 ?k5 ?kK ?kr ?kx ?ky ?ky2 ?kt ?kt2 ?kd ?ku ?_; (case k4 => assumption); walk_at "take asks") | (refine' take_call (pre := [_, _, _]) ?k1 ?k2 ?k3 ?k4 ?k5 ?kK ?kr ?kx ?ky ?ky2 ?kt ?kt2 ?kd ?ku ?_; (case k4 => assumption); walk_at "take asks") | (refine' take_call (pre := [_, _, _, _]) ?k1 ?k2 ?k3 ?k4 ?k5 ?kK ?kr ?kx ?ky ?ky2 ?kt ?kt2 ?kd ?ku ?_; (case k4 => assumption); walk_at "take asks") | (refine' take_call (pre := [_, _, _, _, _]) ?k1 ?k2 ?k3 ?k4 ?k5 ?kK ?kr ?kx ?ky ?ky2 ?kt ?kt2 ?kd ?ku ?_; (case k4 => assumption); walk_at "take asks") | (refine' take_call (pre := [_, _, _, _, _, _]) ?k1 ?k2 ?k3 ?k4 ?k5 ?kK ?kr ?kx ?ky ?ky2 ?kt ?kt2 ?kd ?ku ?_; (case k4 => assumption); walk_at "take asks")))
  k_with "own k_all" => (first | assumption | exact lt_ne0 (by assumption) (by omega) | exact lt_ne1 (by assumption) (by omega) | exact lt_ne2 (by assumption) (by omega) | exact lt_ne3 (by assumption) (by omega))
  k_with "my enter C" => (refine' code_defC ?k1 ?k2 ?k3 ?k4 ?k5 ?kA ?kF ?kK ?k6 ?k7 ?k8 ?k9 ?kB ?kD ?_ ?c2 ?c3 ?c4; (case kA => exact rfl); (case kF => exact rfl); (case kK => assumption); (case k1 => k_asm); (case k2 => k_asm); (case k3 => k_asm); (case k4 => k_asm); (case k5 => k_asm); (case k6 => k_is); (case k7 => k_is); (case k8 => ktr_room); (case k9 => exact BindsTo.of_eq rfl); (case kB => exact rfl); (case kD => decide +kernel); (case c2 => exact rfl); (case c3 => exact rfl); (case c4 => exact rfl); k_whole; intro _ _ _ _ _ _ _ N' Y' B' _ _ l1; (have l2 := l1); (try k_lt l1); k_cells Y'; (try simp only [List.cons_append, List.nil_append] at N'); (try dsimp only); (try k_lift B'); (try k_fold); (have N' := True.intro); (have Y' := True.intro); (have B' := True.intro); (have l1 := True.intro); (have l2 := True.intro))
  k_with "my subscriptTail" => (k_here; (with_reducible show wpAny _ _ (subscriptTail (PySem.Expr.List _ _) _ (Value.ref _) (Value.int _ _)) _ _ _); (with_unfolding_all (first | (refine' item_menuB 1 65535 ?k1 ?k2 ?k3 ?k4 ?k5 ?kb ?_; (case k1 => is_list); (case k2 => l_ints); (case kb => decide); (case k3 => l_idx); (case k4 => l_idx); (case k5 => l_idx); k_whole) | (refine' item_menuB (-7) 130 ?k1 ?k2 ?k3 ?k4 ?k5 ?kb ?_; (case k1 => is_list); (case k2 => l_ints); (case kb => decide); (case k3 => l_idx); (case k4 => l_idx); (case k5 => l_idx); k_whole))); intro _ _ _ _)
  k_with "my eval ListComp" => (k_here; k_dflt (refine LCg.ListComp_U (F₀ := by k_asm) (by with_unfolding_all rfl) (by decide) (by rfl) (by decide) (by rfl) ?_))
  k_with "my CompSrc" => (k_here; k_dflt (refine LCg.CompSrc.range (by rfl) (by k_asm) (by k_asm) (by assumption) (by first | exact small_one (by kcf_bnd) (by kcf_bnd) (by kcf_bnd) (by kcf_bnd) | decide) (by first | exact rangeSize_nat _ _ | rfl) (by first | (rw [PySem.sizeLine_eq]; omega) | (rw [PySem.sizeLine_eq]; (simp only [List.size_toArray]); omega) | size_fits) ?_; intro _))
  k_with "my CompRest" => (fail "mine")
  k_with "my compareOp Eq ref ref" => (k_here; k_dflt (first | (refine' tup_eq ?k1 ?k2 ?k3 ?k4 ?k5 ?_; (case k1 => exact News.isTup (by k_asm) (by k_mem)); (case k2 => exact News.isTup (by k_asm) (by k_mem)); (case k3 => l_ints); (case k4 => l_ints); (case k5 => ktr_units); k_whole) | (refine' eq_intsK ?k1 ?k2 ?k3 ?k4 ?k5 ?_; (case k1 => is_list); (case k2 => l_ints); (case k3 => is_list); (case k4 => l_ints); (case k5 => ktr_units); k_whole)))
  k_with "my compareOp NotEq ref ref" => (k_here; k_dflt (first | (refine' tup_ne ?k1 ?k2 ?k3 ?k4 ?k5 ?_; (case k1 => exact News.isTup (by k_asm) (by k_mem)); (case k2 => exact News.isTup (by k_asm) (by k_mem)); (case k3 => l_ints); (case k4 => l_ints); (case k5 => ktr_units); k_whole) | (refine' ne_intsK ?k1 ?k2 ?k3 ?k4 ?k5 ?_; (case k1 => is_list); (case k2 => l_ints); (case k3 => is_list); (case k4 => l_ints); (case k5 => ktr_units); k_whole)))
  k_with "my call type:tuple" => (k_here; (with_reducible show wpAny _ _ (call (Value.type _) [Value.ref _]) _ _ _); k_dflt (refine' call_tuple_tup ?k1 ?_; (case k1 => exact News.isTup (by k_asm) (by k_mem)); k_whole))
  k_with "my call ref" => (k_here; (with_reducible show wpAny _ _ (call (Value.ref 65) _) _ _ _); k_dflt (refine' sctab_ok ?k1 ?k2 ?k3 ?k4 ?k5 ?kK ?ki ?kl ?kd ?ku ?_; (case k2 => k_asm); (case k1 => k_asm); (case k3 => k_asm); (case k4 => k_asm); (case k5 => k_asm); (case kK => first | exact rfl | assumption); (case ki => assumption); (case kl => assumption); (case kd => ktr_room); (case ku => ktr_units); intro _ _ _ _ _ _ _ _; (try dsimp only); (try k_fold)))
  k_with "my pyIter ref" => (k_here; (with_reducible show wpAny _ _ (pyIter (Value.ref _)) (fun it s₂ => LoopAtV _ _ _ _ _ _ _ _ _ it s₂) _ _); refine Stop.mk ?_)
  k_with "my InvEndN" => (refine Stop.mk ?_)
  trivial
def QofJ (st : List Str) (m₀ : Str → Option Value) (nw : List (Addr × Obj)) (qs bs : List Int) (most : Int) (i : Nat) (m : Str → Option Value) (nx : List (Addr × Obj)) : Prop :=
  MapBut st m₀ m ∧ nx = nw ∧ ∀ k : Int, 100 - (i : Nat) < k → k ≤ 100 → bs.map (scv (qsc k) most) ≠ qs
set_option maxRecDepth 100000 in
set_option maxHeartbeats 8000000 in
theorem qof_ok {w : World} {p : Program} {loose : List Str} {mean : ExcName → Option Value} {mg mb : Str → Option Value}
    {dp un : Nat} {gd : Option (List Code)} {cn : Str} {cs : Scope} {a : Addr} {ccd : Value} {cl : List (Str × Addr)} {outer : List Env} {A₀ : Around} {base h₀ : Heap} {L : Addr} {m : Str → Option Value} {s : Shared} {Q E : Value → Shared → Prop}
    {qt bt : Addr} {qvs bvs : List Value} {qs bs : List Int} {most : Int} {tm : Tok} {news : List (Addr × Obj)}
    (B : Below A₀ base outer h₀) (F : Fr h₀ L s.heap m) (X : (Mine.hd.heap_39 w.params).In h₀) (N : News h₀ L s.heap ((bt, tupOf bvs) :: (qt, tupOf qvs) :: news)) (T : Top p loose mean mg mb h₀)
    (hk : cs.kind = .function) (hI : IntsAre qvs qs) (hl : qs.length ≤ 9) (hJ : IntsAre bvs bs) (hl2 : bs.length ≤ 9) (hd : dp + 30 < recursionLimit) (hu : un + 400 < cLine)
    (ret1 : ∀ q t h' tk', Fr h₀ L h' m → News h₀ L h' ((bt, tupOf bvs) :: (qt, tupOf qvs) :: news) → 1 ≤ q → q ≤ 100 → bs.map (scv (qsc q) most) = qs → (∀ k, q < k → k ≤ 100 → bs.map (scv (qsc k) most) ≠ qs) → Q (.int q t) { s with heap := h', toks := tk' })
    (ret0 : ∀ h' tk', Fr h₀ L h' m → News h₀ L h' ((bt, tupOf bvs) :: (qt, tupOf qvs) :: news) → (∀ k, 1 ≤ k → k ≤ 100 → bs.map (scv (qsc k) most) ≠ qs) → Q .none { s with heap := h', toks := tk' }) :
    wpAny (model PySem.Challenge.rw_nt0538_01.row.prog w) (ktrTop dp un gd cn cs L a ccd cl outer) (call (.ref 110) [.ref qt, .ref bt, .int most tm]) Q E s := by
  revert X; k_fill; intro X
  refine wpAny_call ?_
  k_dflt cell_enter
  k_steps
  unfold Stop
  (rename IsRange _ _ _ _ _ _ _ _ => hR9)
  (rename News _ _ _ _ => N9)
  (rename Fr _ _ _ _ => F9)
  refine iter_rangeJ (n := 100) (QofJ [Str.ofString "quality"] _ _ qs bs most) (by rfl) hR9 (by decide) (by decide) F9 N9 ⟨MapBut.self, rfl, fun k h1 h2 => absurd h1 (by omega)⟩ ?turn ?done
  case turn =>
    rintro i t m₁ nx h tk own hi9 hoff ⟨⟨u, rfl⟩, rfl, hJ9⟩ F' N'
    obtain ⟨k, hk9⟩ : ∃ k : Int, k = 100 + (i : Nat) * (-1) := ⟨_, rfl⟩
    rw [← hk9] at F'
    simp only [List.cons_append] at N'
    obtain ⟨rst, hrst⟩ : ∃ rst, rst = news ++ own := ⟨_, rfl⟩
    rw [← hrst] at N'
    (try k_fold)
    k_steps
    · subst hrst
      have h9 : bs.map (scv (qsc k) most) = qs := by first | assumption | exact of_decide_eq_true (by assumption)
      exact ret1 k _ _ _ (by k_asm) (cb_drop (by k_asm) (by kcf_all)) (by omega) (by omega) h9 (fun k' h1 h2 => hJ9 k' (by omega) h2)
    · subst hrst
      have h9 : ¬ bs.map (scv (qsc k) most) = qs := by first | assumption | exact of_decide_eq_false (by assumption)
      unfold Stop
      refine InvEndN.intro (nx := (bt, tupOf bvs) :: (qt, tupOf qvs) :: news) (by k_asm) (by k_asm) ⟨MapBut.of ?_, rfl, ?_⟩ rfl (by kcf_all) (by kcf_all)
      · intro y hy
        have h1 : y ≠ Str.ofString "quality" := by rintro rfl; exact absurd hy (by decide)
        simp only [h1, if_false, hy, Bool.false_eq_true]
      · intro k' h1 h2
        by_cases e : k' = k
        · rw [e]; exact h9
        · exact hJ9 k' (by omega) h2
  case done =>
    rintro m₁ nx h tk ⟨⟨u, rfl⟩, rfl, hJ9⟩ F' N'
    k_steps
    exact ret0 _ _ (by k_asm) (by k_asm) (fun k h1 h2 => hJ9 k (by omega) h2)
end
-- I1
theorem words_13 : True := by
  k_with_none
  k_with "own k_all" => (assumption)
  k_with "my subscriptTail Name Constant ref int" => (k_here; (with_reducible show wpAny _ _ (subscriptTail _ _ (Value.ref _) (Value.int _ _)) _ _ _); (with_unfolding_all refine' item_litK ?k1 ?k2 ?k3 ?k4 ?_ ?k6; (case k1 => is_list); (case k2 => decide); (case k3 => decide); (case k4 => rfl); (case k6 => with_unfolding_all rfl); k_whole))
  k_with "my take asks" => ( (case k2 => k_asm); (case k1 => k_asm); (case k3 => k_asm); (case k5 => k_asm); (case kK => first | exact rfl | assumption); (case kr => k_all); (case kx => assumption); (case ky => assumption); (case ky2 => assumption); (case kt => first | decide | omega); (case kt2 => first | decide | omega); (case kd => ktr_room); (case ku => ktr_units); intro _ _ _ _ _ _ _ _ _ _ N' _ _ _ _ _; (try simp only [List.nil_append, List.cons_append] at N'); (try dsimp only); (try k_fold); (have N' := True.intro))
  k_with "my call ref" => (k_here; (with_reducible show wpAny _ _ (call (Value.ref 124) _) _ _ _); k_dflt (first | (refine' take_call (pre := []) ?k1 ?k2 ?k3 ?k4 ?k5 ?kK ?kr ?kx ?ky ?ky2 ?kt ?kt2 ?kd ?ku ?_; (case k4 => assumption); walk_at "take asks") | (refine' take_call (pre := [_]) ?k1 ?k2 ?k3 ?k4 ?k5 ?kK ?kr ?kx ?ky ?ky2 ?kt ?kt2 ?kd ?ku ?_; (case k4 => assumption); walk_at "take asks") | (refine' take_call (pre := [_, _]) ?k1 ?k2 ?k3 ?k4 ?k5 ?kK ?kr ?kx ?ky ?ky2 ?kt ?kt2 ?kd ?ku ?_; (case k4 => assumption); walk_at "take asks") | (refine' take_call (pre := [_, _, _]) ?k1 ?k2 ?k3 ?k4 ?k5 ?kK ?kr ?kx ?ky ?ky2 ?kt ?kt2 ?kd ?ku ?_; (case k4 => assumption); walk_at "take asks") | (refine' take_call (pre := [_, _, _, _]) ?k1 ?k2 ?k3 ?k4 ?k5 ?kK ?kr ?kx ?ky ?ky2 ?kt ?kt2 ?kd ?ku ?_; (case k4 => assumption); walk_at "take asks") | (refine' take_call (pre := [_, _, _, _, _]) ?k1 ?k2 ?k3 ?k4 ?k5 ?kK ?kr ?kx ?ky ?ky2 ?kt ?kt2 ?kd ?ku ?_; (case k4 => assumption); walk_at "take asks") | (refine' take_call (pre := [_, _, _, _, _, _]) ?k1 ?k2 ?k3 ?k4 ?k5 ?kK ?kr ?kx ?ky ?ky2 ?kt ?kt2 ?kd ?ku ?_; (case k4 => assumption); walk_at "take asks")))
  k_with "own k_all" => (first | assumption | exact lt_ne0 (by assumption) (by omega) | exact lt_ne1 (by assumption) (by omega) | exact lt_ne2 (by assumption) (by omega) | exact lt_ne3 (by assumption) (by omega))
  k_with "my enter C" => (refine' code_defC ?k1 ?k2 ?k3 ?k4 ?k5 ?kA ?kF ?kK ?k6 ?k7 ?k8 ?k9 ?kB ?kD ?_ ?c2 ?c3 ?c4; (case kA => exact rfl); (case kF => exact rfl); (case kK => assumption); (case k1 => k_asm); (case k2 => k_asm); (case k3 => k_asm); (case k4 => k_asm); (case k5 => k_asm); (case k6 => k_is); (case k7 => k_is); (case k8 => ktr_room); (case k9 => exact BindsTo.of_eq rfl); (case kB => exact rfl); (case kD => decide +kernel); (case c2 => exact rfl); (case c3 => exact rfl); (case c4 => exact rfl); k_whole; intro _ _ _ _ _ _ _ N' Y' B' _ _ l1; (have l2 := l1); (try k_lt l1); k_cells Y'; (try simp only [List.cons_append, List.nil_append] at N'); (try dsimp only); (try k_lift B'); (try k_fold); (have N' := True.intro); (have Y' := True.intro); (have B' := True.intro); (have l1 := True.intro); (have l2 := True.intro))
  k_with "my subscriptTail" => (k_here; (with_reducible show wpAny _ _ (subscriptTail (PySem.Expr.List _ _) _ (Value.ref _) (Value.int _ _)) _ _ _); (with_unfolding_all (first | (refine' item_menuB 1 65535 ?k1 ?k2 ?k3 ?k4 ?k5 ?kb ?_; (case k1 => is_list); (case k2 => l_ints); (case kb => decide); (case k3 => l_idx); (case k4 => l_idx); (case k5 => l_idx); k_whole) | (refine' item_menuB (-7) 130 ?k1 ?k2 ?k3 ?k4 ?k5 ?kb ?_; (case k1 => is_list); (case k2 => l_ints); (case kb => decide); (case k3 => l_idx); (case k4 => l_idx); (case k5 => l_idx); k_whole))); intro _ _ _ _)
  k_with "my eval ListComp" => (k_here; k_dflt (refine LCg.ListComp_U (F₀ := by k_asm) (by with_unfolding_all rfl) (by decide) (by rfl) (by decide) (by rfl) ?_))
  k_with "my CompSrc" => (k_here; k_dflt (refine LCg.CompSrc.range (by rfl) (by k_asm) (by k_asm) (by assumption) (by first | exact small_one (by kcf_bnd) (by kcf_bnd) (by kcf_bnd) (by kcf_bnd) | decide) (by first | exact rangeSize_nat _ _ | rfl) (by first | (rw [PySem.sizeLine_eq]; omega) | (rw [PySem.sizeLine_eq]; (simp only [List.size_toArray]); omega) | size_fits) ?_; intro _))
  k_with "my CompRest" => (fail "mine")
  k_with "my compareOp Eq ref ref" => (k_here; k_dflt (first | (refine' tup_eq ?k1 ?k2 ?k3 ?k4 ?k5 ?_; (case k1 => exact News.isTup (by k_asm) (by k_mem)); (case k2 => exact News.isTup (by k_asm) (by k_mem)); (case k3 => l_ints); (case k4 => l_ints); (case k5 => ktr_units); k_whole) | (refine' eq_intsK ?k1 ?k2 ?k3 ?k4 ?k5 ?_; (case k1 => is_list); (case k2 => l_ints); (case k3 => is_list); (case k4 => l_ints); (case k5 => ktr_units); k_whole)))
  k_with "my compareOp NotEq ref ref" => (k_here; k_dflt (first | (refine' tup_ne ?k1 ?k2 ?k3 ?k4 ?k5 ?_; (case k1 => exact News.isTup (by k_asm) (by k_mem)); (case k2 => exact News.isTup (by k_asm) (by k_mem)); (case k3 => l_ints); (case k4 => l_ints); (case k5 => ktr_units); k_whole) | (refine' ne_intsK ?k1 ?k2 ?k3 ?k4 ?k5 ?_; (case k1 => is_list); (case k2 => l_ints); (case k3 => is_list); (case k4 => l_ints); (case k5 => ktr_units); k_whole)))
  k_with "my call type:tuple" => (k_here; (with_reducible show wpAny _ _ (call (Value.type _) [Value.ref _]) _ _ _); k_dflt (refine' call_tuple_tup ?k1 ?_; (case k1 => exact News.isTup (by k_asm) (by k_mem)); k_whole))
  trivial
theorem iter_tupJ {prog : Program} {w : World} {A : Around} {E : Value → Shared → Prop} {s : Shared} {env : Env} {h₀ : Heap} {x : Str} {body : List Stmt} {Q : Flow → Shared → Prop}
    {t : Addr} {vs : List Value} {ns : List Int} {m₀ : Str → Option Value} {news : List (Addr × Obj)} (J : Nat → (Str → Option Value) → Prop)
    (hh : A.handled = none) (ht : (t, tupOf vs) ∈ news) (hI : IntsAre vs ns) (F : Fr h₀ env.locals s.heap m₀) (N : News h₀ env.locals s.heap news) (hJ : J 0 m₀)
    (turn : ∀ i k u m₁ h tk own, ns[i]? = some k → J i m₁ → Fr h₀ env.locals h (fun y => if y = x then some (.int k u) else m₁ y) → News h₀ env.locals h (own ++ news) →
      wpAny (model prog w) A (execs body env) (InvPost h₀ env.locals (J (i + 1)) (own ++ news) { s with heap := h, toks := tk } Q) E { s with heap := h, toks := tk })
    (done : ∀ m₁ h tk, J ns.length m₁ → Fr h₀ env.locals h m₁ → News h₀ env.locals h news → Q .next { s with heap := h, toks := tk }) :
    wpAny (model prog w) A (pyIter (.ref t)) (fun it s₂ => LoopAtV prog w A h₀ env x body Q E it s₂) E s := by
  have hT : s.heap.IsTuple t vs.toArray := ⟨_, (N _ ht).1, rfl, _, rfl⟩
  have hlt : t < s.heap.objs.size := Heap.lt_size (N _ ht).1
  have hnew : ∀ b, b ∈ [s.heap.objs.size] → b = s.heap.objs.size := fun b hb => List.mem_singleton.mp hb
  have hlen : vs.toArray.size = ns.length := by simp [hI.length]
  refine wpAny_pyIter_tuple hT ?_
  have W := Walks.tuple (prog := prog) (w := w) hh s.heap.objs.size t (Nat.ne_of_lt hlt) vs.toArray
  rw [hlen] at W
  refine ⟨_, _, _, ns.length, _, _, m₀, news, fun i m₁ nw => nw = news ∧ J i m₁, rfl, W, ?_, ?_, ?_, ⟨⟨_, Heap.get?_push_size _ rfl, rfl, rfl⟩, hT.push _⟩, F.push _, N.grown fun _ _ e => Heap.get?_push_of_some _ e, ⟨rfl, hJ⟩, ?_, ?_⟩
  · intro hm
    simp only [List.mem_cons, List.not_mem_nil, or_false] at hm
    rcases hm with e | e
    · exact absurd F.ns.lt (by rw [e]; exact Nat.lt_irrefl _)
    · exact (N _ ht).2.1 e.symm
  · intro b hb
    rw [hnew _ hb]
    exact next_is_new F
  · intro p hp hm
    exact absurd (Heap.lt_size (N p hp).1) (by rw [hnew _ hm]; exact Nat.lt_irrefl _)
  · rintro i v m₁ nw s₁ own ⟨h, tk, rfl⟩ hin hP ⟨rfl, hj⟩ hoff hown _ _ _ F₁ N₁
    obtain ⟨k, u, rfl, hk⟩ := hI.at i v (by simpa using hP)
    refine wpAny_mono (turn i k u m₁ h tk own hk hj F₁ N₁) (fun f s₂ p => ?_) fun _ _ e => e
    have fin : InvEnd h₀ env.locals (J (i + 1)) (own ++ nw) { s with heap := h, toks := tk } s₂ → LoopStepU h₀ env.locals [s.heap.objs.size] own (fun m₁ nw' => nw' = nw ∧ J (i + 1) m₁) { s with heap := h, toks := tk } .next s₂ := by
      rintro ⟨h', tk', m', nw', e, F', N', hn, hm⟩
      exact ⟨rfl, h', tk', m', nw, e, F', fun p hp => N' p (hn p hp), hoff, rfl, hm⟩
    cases f with
    | ret v => exact .ret p
    | brk => exact .brk p
    | next => exact .next (fin p)
    | cont => exact .cont (fin p)
  · rintro h' tk m' nw F' N' _ ⟨rfl, hj⟩
    exact done m' h' tk hj F' N'
theorem len_tupI {prog : Program} {w : World} {A : Around} {E : Value → Shared → Prop} {s : Shared} {t : Addr} {vs : List Value} {ns : List Int} {Q : Value → Shared → Prop} (ht : IsTup s.heap t vs.toArray) (hi : IntsAre vs ns) (hfit : ns.length ≤ 1000)
    (h : Q (.int (ns.length : Nat) (s.toks + 1)) { s with toks := s.toks + 1 + 1 }) : wpAny (model prog w) A (call (.builtin "len") [.ref t]) Q E s := by
  have e : vs.toArray.size = ns.length := by simp [hi.length]
  refine PyProof.Rows.len_tuple ht (by rw [e]; omega) ?_
  rw [e]; exact h
section
theorem words_14 : True := by
  k_with_none
  k_with "own k_all" => (assumption)
  k_with "my subscriptTail Name Constant ref int" => (k_here; (with_reducible show wpAny _ _ (subscriptTail _ _ (Value.ref _) (Value.int _ _)) _ _ _); (with_unfolding_all refine' item_litK ?k1 ?k2 ?k3 ?k4 ?_ ?k6; (case k1 => is_list); (case k2 => decide); (case k3 => decide); (case k4 => rfl); (case k6 => with_unfolding_all rfl); k_whole))
  k_with "my take asks" => ( (case k2 => k_asm); (case k1 => k_asm); (case k3 => k_asm); (case k5 => k_asm); (case kK => first | exact rfl | assumption); (case kr => k_all); (case kx => assumption); (case ky => assumption); (case ky2 => assumption); (case kt => first | decide | omega); (case kt2 => first | decide | omega); (case kd => ktr_room); (case ku => ktr_units); intro _ _ _ _ _ _ _ _ _ _ N' _ _ _ _ _; (try simp only [List.nil_append, List.cons_append] at N'); (try dsimp only); (try k_fold); (have N' := True.intro))
  k_with "my call ref" => (k_here; (with_reducible show wpAny _ _ (call (Value.ref 124) _) _ _ _); k_dflt (first | (refine' take_call (pre := []) ?k1 ?k2 ?k3 ?k4 ?k5 ?kK ?kr ?kx ?ky ?ky2 ?kt ?kt2 ?kd ?ku ?_; (case k4 => assumption); walk_at "take asks") | (refine' take_call (pre := [_]) ?k1 ?k2 ?k3 ?k4 ?k5 ?kK ?kr ?kx ?ky ?ky2 ?kt ?kt2 ?kd ?ku ?_; (case k4 => assumption); walk_at "take asks") | (refine' take_call (pre := [_, _]) ?k1 ?k2 ?k3 ?k4 ?k5 ?kK ?kr ?kx ?ky ?ky2 ?kt ?kt2 ?kd ?ku ?_; (case k4 => assumption); walk_at "take asks") | (refine' take_call (pre := [_, _, _]) ?k1 ?k2 ?k3 ?k4 ?k5 ?kK ?kr ?kx ?ky ?ky2 ?kt ?kt2 ?kd ?ku ?_; (case k4 => assumption); walk_at "take asks") | (refine' take_call (pre := [_, _, _, _]) ?k1 ?k2 ?k3 ?k4 ?k5 ?kK ?kr ?kx ?ky ?ky2 ?kt ?kt2 ?kd ?ku ?_; (case k4 => assumption); walk_at "take asks") | (refine' take_call (pre := [_, _, _, _, _]) ?k1 ?k2 ?k3 ?k4 ?k5 ?kK ?kr ?kx ?ky ?ky2 ?kt ?kt2 ?kd ?ku ?_; (case k4 => assumption); walk_at "take asks") | (refine' take_call (pre := [_, _, _, _, _, _]) ?k1 ?k2 ?k3 ?k4 ?k5 ?kK ?kr ?kx ?ky ?ky2 ?kt ?kt2 ?kd ?ku ?_; (case k4 => assumption); walk_at "take asks")))
  k_with "own k_all" => (first | assumption | exact lt_ne0 (by assumption) (by omega) | exact lt_ne1 (by assumption) (by omega) | exact lt_ne2 (by assumption) (by omega) | exact lt_ne3 (by assumption) (by omega))
  k_with "my enter C" => (refine' code_defC ?k1 ?k2 ?k3 ?k4 ?k5 ?kA ?kF ?kK ?k6 ?k7 ?k8 ?k9 ?kB ?kD ?_ ?c2 ?c3 ?c4; (case kA => exact rfl); (case kF => exact rfl); (case kK => assumption); (case k1 => k_asm); (case k2 => k_asm); (case k3 => k_asm); (case k4 => k_asm); (case k5 => k_asm); (case k6 => k_is); (case k7 => k_is); (case k8 => ktr_room); (case k9 => exact BindsTo.of_eq rfl); (case kB => exact rfl); (case kD => decide +kernel); (case c2 => exact rfl); (case c3 => exact rfl); (case c4 => exact rfl); k_whole; intro _ _ _ _ _ _ _ N' Y' B' _ _ l1; (have l2 := l1); (try k_lt l1); k_cells Y'; (try simp only [List.cons_append, List.nil_append] at N'); (try dsimp only); (try k_lift B'); (try k_fold); (have N' := True.intro); (have Y' := True.intro); (have B' := True.intro); (have l1 := True.intro); (have l2 := True.intro))
  k_with "my subscriptTail" => (k_here; (with_reducible show wpAny _ _ (subscriptTail (PySem.Expr.List _ _) _ (Value.ref _) (Value.int _ _)) _ _ _); (with_unfolding_all (first | (refine' item_menuB 1 65535 ?k1 ?k2 ?k3 ?k4 ?k5 ?kb ?_; (case k1 => is_list); (case k2 => l_ints); (case kb => decide); (case k3 => l_idx); (case k4 => l_idx); (case k5 => l_idx); k_whole) | (refine' item_menuB (-7) 130 ?k1 ?k2 ?k3 ?k4 ?k5 ?kb ?_; (case k1 => is_list); (case k2 => l_ints); (case kb => decide); (case k3 => l_idx); (case k4 => l_idx); (case k5 => l_idx); k_whole))); intro _ _ _ _)
  k_with "my eval ListComp" => (k_here; k_dflt (refine LCg.ListComp_U (F₀ := by k_asm) (by with_unfolding_all rfl) (by decide) (by rfl) (by decide) (by rfl) ?_))
  k_with "my CompSrc" => (k_here; k_dflt (refine LCg.CompSrc.range (by rfl) (by k_asm) (by k_asm) (by assumption) (by first | exact small_one (by kcf_bnd) (by kcf_bnd) (by kcf_bnd) (by kcf_bnd) | decide) (by first | exact rangeSize_nat _ _ | rfl) (by first | (rw [PySem.sizeLine_eq]; omega) | (rw [PySem.sizeLine_eq]; (simp only [List.size_toArray]); omega) | size_fits) ?_; intro _))
  k_with "my CompRest" => (fail "mine")
  k_with "my compareOp Eq ref ref" => (k_here; k_dflt (first | (refine' tup_eq ?k1 ?k2 ?k3 ?k4 ?k5 ?_; (case k1 => exact News.isTup (by k_asm) (by k_mem)); (case k2 => exact News.isTup (by k_asm) (by k_mem)); (case k3 => l_ints); (case k4 => l_ints); (case k5 => ktr_units); k_whole) | (refine' eq_intsK ?k1 ?k2 ?k3 ?k4 ?k5 ?_; (case k1 => is_list); (case k2 => l_ints); (case k3 => is_list); (case k4 => l_ints); (case k5 => ktr_units); k_whole)))
  k_with "my compareOp NotEq ref ref" => (k_here; k_dflt (first | (refine' tup_ne ?k1 ?k2 ?k3 ?k4 ?k5 ?_; (case k1 => exact News.isTup (by k_asm) (by k_mem)); (case k2 => exact News.isTup (by k_asm) (by k_mem)); (case k3 => l_ints); (case k4 => l_ints); (case k5 => ktr_units); k_whole) | (refine' ne_intsK ?k1 ?k2 ?k3 ?k4 ?k5 ?_; (case k1 => is_list); (case k2 => l_ints); (case k3 => is_list); (case k4 => l_ints); (case k5 => ktr_units); k_whole)))
  k_with "my call type:tuple" => (k_here; (with_reducible show wpAny _ _ (call (Value.type _) [Value.ref _]) _ _ _); k_dflt (refine' call_tuple_tup ?k1 ?_; (case k1 => exact News.isTup (by k_asm) (by k_mem)); k_whole))
  k_with "my call builtin:len" => (k_here; (with_reducible show wpAny _ _ (call (Value.builtin "len") [Value.ref _]) _ _ _); k_dflt (refine' len_tupI ?k1 ?k2 ?k3 ?_; (case k1 => exact News.isTup (by k_asm) (by k_mem)); (case k2 => l_ints); (case k3 => omega); k_whole))
  k_with "my exec For Name Name cons nil" => (k_here; (rename Fr _ _ _ _ => lF'); (with_unfolding_all refine' For_invVF lF' ?k1 ?k2 ?_; (case k1 => exact rfl); (case k2 => exact rfl); k_whole))
  k_with "my pyIter ref" => (k_here; (with_reducible show wpAny _ _ (pyIter (Value.ref _)) (fun it s₂ => LoopAtV _ _ _ _ _ _ _ _ _ it s₂) _ _); refine Stop.mk ?_)
  k_with "my InvEnd" => (refine Stop.mk ?_)
  trivial
def PrJ (st : List Str) (m₀ : Str → Option Value) (P : Int → Prop) (ns : List Int) (i : Nat) (m : Str → Option Value) : Prop := MapBut st m₀ m ∧ ∀ v ∈ ns.take i, P v
theorem PrJ.all {st : List Str} {m₀ m : Str → Option Value} {P : Int → Prop} {ns : List Int} (h : PrJ st m₀ P ns ns.length m) : ∀ v ∈ ns, P v := by have := h.2; rwa [List.take_length] at this
theorem PrJ.succ {st : List Str} {m₀ m : Str → Option Value} {P : Int → Prop} {ns : List Int} {i : Nat} {k : Int} (hm : ∀ y, st.contains y = false → m y = m₀ y) (hk : ns[i]? = some k) (h : ∀ v ∈ ns.take i, P v) (hp : P k) : PrJ st m₀ P ns (i + 1) m := by
  refine ⟨MapBut.of hm, fun v hv => ?_⟩
  rw [List.take_add_one, hk] at hv
  rcases List.mem_append.mp hv with h' | h'
  · exact h v h'
  · have e : v = k := List.mem_singleton.mp h'
    rw [e]; exact hp
set_option maxRecDepth 100000 in
set_option maxHeartbeats 8000000 in
theorem prec_ok {w : World} {p : Program} {loose : List Str} {mean : ExcName → Option Value} {mg mb : Str → Option Value}
    {dp un : Nat} {gd : Option (List Code)} {cn : Str} {cs : Scope} {a : Addr} {ccd : Value} {cl : List (Str × Addr)} {outer : List Env} {A₀ : Around} {base h₀ : Heap} {L : Addr} {m : Str → Option Value} {s : Shared} {Q E : Value → Shared → Prop}
    {qt : Addr} {qvs : List Value} {qs : List Int} {news : List (Addr × Obj)}
    (B : Below A₀ base outer h₀) (F : Fr h₀ L s.heap m) (X : (Mine.hd.heap_39 w.params).In h₀) (N : News h₀ L s.heap ((qt, tupOf qvs) :: news)) (T : Top p loose mean mg mb h₀)
    (hk : cs.kind = .function) (hI : IntsAre qvs qs) (hd : dp + 8 < recursionLimit) (hu : un + 100 < cLine)
    (ret1 : ∀ t h' tk', Fr h₀ L h' m → News h₀ L h' ((qt, tupOf qvs) :: news) → (∃ v ∈ qs, 255 < v) → Q (.int 1 t) { s with heap := h', toks := tk' })
    (ret0 : ∀ t h' tk', Fr h₀ L h' m → News h₀ L h' ((qt, tupOf qvs) :: news) → (∀ v ∈ qs, ¬ 255 < v) → Q (.int 0 t) { s with heap := h', toks := tk' }) :
    wpAny (model PySem.Challenge.rw_nt0538_01.row.prog w) (ktrTop dp un gd cn cs L a ccd cl outer) (call (.ref 79) [.ref qt]) Q E s := by
  revert X; k_fill; intro X
  refine wpAny_call ?_
  k_dflt cell_enter
  k_steps
  unfold Stop
  (rename News _ _ _ _ => N9)
  (rename Fr _ _ _ _ => F9)
  refine iter_tupJ (PrJ [Str.ofString "one"] _ (fun v => ¬ 255 < v) qs) (by rfl) (.head _) hI F9 N9 ⟨MapBut.self, fun _ h => nomatch h⟩ ?turn ?done
  case turn =>
    rintro i k u m₁ h tk own hk9 ⟨⟨u9, rfl⟩, hp⟩ F' N'
    (try k_fold)
    k_steps
    · exact ret1 _ _ _ (by k_asm) (cb_drop (by k_asm) (by kcf_all)) ⟨k, List.mem_of_getElem? hk9, by assumption⟩
    · unfold Stop
      refine InvEnd.intro (by k_asm) (by k_asm) (fun _ h => h) (PrJ.succ ?_ hk9 hp (by assumption))
      intro y hy
      have h1 : y ≠ Str.ofString "one" := by rintro rfl; exact absurd hy (by decide)
      simp only [h1, if_false, hy, Bool.false_eq_true]
  case done =>
    rintro m₁ h tk hJ F' N'
    have hp := hJ.all
    obtain ⟨⟨u9, rfl⟩, hJ2⟩ := hJ
    k_steps
    exact ret0 _ _ _ (by k_asm) (by k_asm) hp
set_option maxRecDepth 100000 in
set_option maxHeartbeats 8000000 in
theorem chk_ok {w : World} {p : Program} {loose : List Str} {mean : ExcName → Option Value} {mg mb : Str → Option Value}
    {dp un : Nat} {gd : Option (List Code)} {cn : Str} {cs : Scope} {a : Addr} {ccd : Value} {cl : List (Str × Addr)} {outer : List Env} {A₀ : Around} {base h₀ : Heap} {L : Addr} {m : Str → Option Value} {s : Shared} {Q E : Value → Shared → Prop}
    {qt : Addr} {qvs : List Value} {qs : List Int} {most : Int} {tn tm : Tok} {news : List (Addr × Obj)}
    (B : Below A₀ base outer h₀) (F : Fr h₀ L s.heap m) (X : (Mine.hd.heap_39 w.params).In h₀) (N : News h₀ L s.heap ((qt, tupOf qvs) :: news)) (T : Top p loose mean mg mb h₀)
    (hk : cs.kind = .function) (hI : IntsAre qvs qs) (hl : qs.length = 4) (hq : ∀ v ∈ qs, 1 ≤ v ∧ v ≤ most) (hd : dp + 8 < recursionLimit) (hu : un + 100 < cLine)
    (ret : ∀ h' tk', Fr h₀ L h' m → News h₀ L h' ((qt, tupOf qvs) :: news) → Q .none { s with heap := h', toks := tk' }) :
    wpAny (model PySem.Challenge.rw_nt0538_01.row.prog w) (ktrTop dp un gd cn cs L a ccd cl outer) (call (.ref 72) [.ref qt, .int 2 tn, .int most tm]) Q E s := by
  have hvl := hI.length
  revert X; k_fill; intro X
  refine wpAny_call ?_
  k_dflt cell_enter
  k_steps
  · exfalso; simp only [bne_iff_ne, ne_eq, decide_eq_true_eq, hl] at *; omega
  unfold Stop
  (rename News _ _ _ _ => N9)
  (rename Fr _ _ _ _ => F9)
  refine iter_tupJ (PrJ [Str.ofString "one"] _ (fun _ => True) qs) (by rfl) (.head _) hI F9 N9 ⟨MapBut.self, fun _ h => nomatch h⟩ ?turn ?done
  case turn =>
    rintro i k u m₁ h tk own hk9 ⟨⟨u9, rfl⟩, hp⟩ F' N'
    have hb := hq k (List.mem_of_getElem? hk9)
    have hb1 := hb.1
    have hb2 := hb.2
    (try k_fold)
    k_steps
    unfold Stop
    refine InvEnd.intro (by k_asm) (by k_asm) (fun _ h => h) (PrJ.succ ?_ hk9 hp trivial)
    intro y hy
    have h1 : y ≠ Str.ofString "one" := by rintro rfl; exact absurd hy (by decide)
    simp only [h1, if_false, hy, Bool.false_eq_true]
  case done =>
    rintro m₁ h tk hJ F' N'
    obtain ⟨⟨u9, rfl⟩, hJ2⟩ := hJ
    k_steps
    exact ret _ _ (by k_asm) (by k_asm)
end
section
-- K1
theorem words_15 : True := by
  k_with_none
  k_with "own k_all" => (assumption)
  k_with "my subscriptTail Name Constant ref int" => (k_here; (with_reducible show wpAny _ _ (subscriptTail _ _ (Value.ref _) (Value.int _ _)) _ _ _); (with_unfolding_all refine' item_litK ?k1 ?k2 ?k3 ?k4 ?_ ?k6; (case k1 => is_list); (case k2 => decide); (case k3 => decide); (case k4 => rfl); (case k6 => with_unfolding_all rfl); k_whole))
  k_with "my take asks" => ( (case k2 => k_asm); (case k1 => k_asm); (case k3 => k_asm); (case k5 => k_asm); (case kK => first | exact rfl | assumption); (case kr => k_all); (case kx => assumption); (case ky => assumption); (case ky2 => assumption); (case kt => first | decide | omega); (case kt2 => first | decide | omega); (case kd => ktr_room); (case ku => ktr_units); intro _ _ _ _ _ _ _ _ _ _ N' _ _ _ _ _; (try simp only [List.nil_append, List.cons_append] at N'); (try dsimp only); (try k_fold); (have N' := True.intro))
  k_with "my call ref" => (k_here; (with_reducible show wpAny _ _ (call (Value.ref 124) _) _ _ _); k_dflt (first | (refine' take_call (pre := []) ?k1 ?k2 ?k3 ?k4 ?k5 ?kK ?kr ?kx ?ky ?ky2 ?kt ?kt2 ?kd ?ku ?_; (case k4 => assumption); walk_at "take asks") | (refine' take_call (pre := [_]) ?k1 ?k2 ?k3 ?k4 ?k5 ?kK ?kr ?kx ?ky ?ky2 ?kt ?kt2 ?kd ?ku ?_; (case k4 => assumption); walk_at "take asks") | (refine' take_call (pre := [_, _]) ?k1 ?k2 ?k3 ?k4 ?k5 ?kK ?kr ?kx ?ky ?ky2 ?kt ?kt2 ?kd ?ku ?_; (case k4 => assumption); walk_at "take asks") | (refine' take_call (pre := [_, _, _]) ?k1 ?k2 ?k3 ?k4 ?k5 ?kK ?kr ?kx ?ky ?ky2 ?kt ?kt2 ?kd ?ku ?_; (case k4 => assumption); walk_at "take asks") | (refine' take_call (pre := [_, _, _, _]) ?k1 ?k2 ?k3 ?k4 ?k5 ?kK ?kr ?kx ?ky ?ky2 ?kt ?kt2 ?kd ?ku ?_; (case k4 => assumption); walk_at "take asks") | (refine' take_call (pre := [_, _, _, _, _]) ?k1 ?k2 ?k3 ?k4 ?k5 ?kK ?kr ?kx ?ky ?ky2 ?kt ?kt2 ?kd ?ku ?_; (case k4 => assumption); walk_at "take asks") | (refine' take_call (pre := [_, _, _, _, _, _]) ?k1 ?k2 ?k3 ?k4 ?k5 ?kK ?kr ?kx ?ky ?ky2 ?kt ?kt2 ?kd ?ku ?_; (case k4 => assumption); walk_at "take asks")))
  k_with "own k_all" => (first | assumption | exact lt_ne0 (by assumption) (by omega) | exact lt_ne1 (by assumption) (by omega) | exact lt_ne2 (by assumption) (by omega) | exact lt_ne3 (by assumption) (by omega))
  k_with "my enter C" => (refine' code_defC ?k1 ?k2 ?k3 ?k4 ?k5 ?kA ?kF ?kK ?k6 ?k7 ?k8 ?k9 ?kB ?kD ?_ ?c2 ?c3 ?c4; (case kA => exact rfl); (case kF => exact rfl); (case kK => assumption); (case k1 => k_asm); (case k2 => k_asm); (case k3 => k_asm); (case k4 => k_asm); (case k5 => k_asm); (case k6 => k_is); (case k7 => k_is); (case k8 => ktr_room); (case k9 => exact BindsTo.of_eq rfl); (case kB => exact rfl); (case kD => decide +kernel); (case c2 => exact rfl); (case c3 => exact rfl); (case c4 => exact rfl); k_whole; intro _ _ _ _ _ _ _ N' Y' B' _ _ l1; (have l2 := l1); (try k_lt l1); k_cells Y'; (try simp only [List.cons_append, List.nil_append] at N'); (try dsimp only); (try k_lift B'); (try k_fold); (have N' := True.intro); (have Y' := True.intro); (have B' := True.intro); (have l1 := True.intro); (have l2 := True.intro))
  k_with "my subscriptTail" => (k_here; (with_reducible show wpAny _ _ (subscriptTail (PySem.Expr.List _ _) _ (Value.ref _) (Value.int _ _)) _ _ _); (with_unfolding_all (first | (refine' item_menuB 1 65535 ?k1 ?k2 ?k3 ?k4 ?k5 ?kb ?_; (case k1 => is_list); (case k2 => l_ints); (case kb => decide); (case k3 => l_idx); (case k4 => l_idx); (case k5 => l_idx); k_whole) | (refine' item_menuB (-7) 130 ?k1 ?k2 ?k3 ?k4 ?k5 ?kb ?_; (case k1 => is_list); (case k2 => l_ints); (case kb => decide); (case k3 => l_idx); (case k4 => l_idx); (case k5 => l_idx); k_whole))); intro _ _ _ _)
  k_with "my eval ListComp" => (k_here; k_dflt (refine LCg.ListComp_U (F₀ := by k_asm) (by with_unfolding_all rfl) (by decide) (by rfl) (by decide) (by rfl) ?_))
  k_with "my CompSrc" => (k_here; k_dflt (refine LCg.CompSrc.range (by rfl) (by k_asm) (by k_asm) (by assumption) (by first | exact small_one (by kcf_bnd) (by kcf_bnd) (by kcf_bnd) (by kcf_bnd) | decide) (by first | exact rangeSize_nat _ _ | rfl) (by first | (rw [PySem.sizeLine_eq]; omega) | (rw [PySem.sizeLine_eq]; (simp only [List.size_toArray]); omega) | size_fits) ?_; intro _))
  k_with "my CompRest" => (fail "mine")
  k_with "my compareOp Eq ref ref" => (k_here; k_dflt (first | (refine' tup_eq ?k1 ?k2 ?k3 ?k4 ?k5 ?_; (case k1 => exact News.isTup (by k_asm) (by k_mem)); (case k2 => exact News.isTup (by k_asm) (by k_mem)); (case k3 => l_ints); (case k4 => l_ints); (case k5 => ktr_units); k_whole) | (refine' eq_intsK ?k1 ?k2 ?k3 ?k4 ?k5 ?_; (case k1 => is_list); (case k2 => l_ints); (case k3 => is_list); (case k4 => l_ints); (case k5 => ktr_units); k_whole)))
  k_with "my compareOp NotEq ref ref" => (k_here; k_dflt (first | (refine' tup_ne ?k1 ?k2 ?k3 ?k4 ?k5 ?_; (case k1 => exact News.isTup (by k_asm) (by k_mem)); (case k2 => exact News.isTup (by k_asm) (by k_mem)); (case k3 => l_ints); (case k4 => l_ints); (case k5 => ktr_units); k_whole) | (refine' ne_intsK ?k1 ?k2 ?k3 ?k4 ?k5 ?_; (case k1 => is_list); (case k2 => l_ints); (case k3 => is_list); (case k4 => l_ints); (case k5 => ktr_units); k_whole)))
  k_with "my call type:tuple" => (k_here; (with_reducible show wpAny _ _ (call (Value.type _) [Value.ref _]) _ _ _); k_dflt (refine' call_tuple_tup ?k1 ?_; (case k1 => exact News.isTup (by k_asm) (by k_mem)); k_whole))
  k_with "my call builtin:len" => (k_here; (with_reducible show wpAny _ _ (call (Value.builtin "len") [Value.ref _]) _ _ _); k_dflt (refine' len_tupI ?k1 ?k2 ?k3 ?_; (case k1 => exact News.isTup (by k_asm) (by k_mem)); (case k2 => l_ints); (case k3 => omega); k_whole))
  k_with "my q of" => (first | exact q0 (by assumption) | exact q1 (by assumption) | exact q2 (by assumption) | exact q3 (by assumption) | exact q4 (by assumption) | exact q5 (by assumption) | exact q6 (by assumption) | exact q7 (by assumption) | exact q8 (by assumption) | exact q9 (by assumption))
  k_with "my q lt" => (first | assumption | exact Nat.lt_succ_self _ | walk_at "q of")
  k_with "my q ne" => (first | (refine' Nat.lt_of_lt_of_le ?h q_u7; (case h => walk_at "q lt")) | (refine' Nat.lt_of_lt_of_le ?h q_u6; (case h => walk_at "q lt")) | (refine' Nat.lt_of_lt_of_le ?h q_u5; (case h => walk_at "q lt")) | (refine' Nat.lt_of_lt_of_le ?h q_u4; (case h => walk_at "q lt")) | (refine' Nat.lt_of_lt_of_le ?h q_u3; (case h => walk_at "q lt")) | (refine' Nat.lt_of_lt_of_le ?h q_u2; (case h => walk_at "q lt")) | (refine' Nat.lt_of_lt_of_le ?h q_u1; (case h => walk_at "q lt")) | walk_at "q lt")
  k_with "my q eq" => (first | (refine' Eq.trans (by assumption) ?q; (case q => walk_at "q eq")) | (refine' Eq.trans q_t0 ?q; (case q => walk_at "q eq")) | exact rfl)
  k_with "own omega" => (first | decide | with_reducible first | assumption | (refine' q_gt ?q; (case q => walk_at "q ne")) | (refine' Ne.symm (q_gt ?q); (case q => walk_at "q ne")) | exact q_room1 (by assumption) rfl | exact q_room (by assumption) rfl | exact q_room0 (by assumption) | exact q_i0 | exact q_nlo | exact q_nhi (by assumption) | exact q_cnt (by assumption) | exact q_pos (by assumption) | exact q_blo (by assumption) | exact q_bhi (by assumption) | exact q_ble (by assumption) rfl | exact q_vlt (by assumption) rfl | exact q_vle (by assumption) rfl | (refine' q_ll ?e ?h; (case e => walk_at "q eq"); (case h => walk_at "q eq")) | (refine' q_kl ?h ?e ?f; (case h => assumption); (case e => walk_at "q eq"); (case f => walk_at "q eq")) | (refine' q_ix ?h ?e ?f; (case h => assumption); (case e => walk_at "q eq"); (case f => walk_at "q eq")) | (refine' q_le ?e ?h ?b; (case e => walk_at "q eq"); (case h => first | assumption | decide); (case b => decide)) | (refine' q_lhi ?e ?h; (case e => walk_at "q eq"); (case h => assumption)) | exact q_u1 | exact q_u2 | exact q_u3 | exact q_u4 | exact q_u5 | exact q_u6 | exact q_u7 | walk_at "q of")
  k_with "my subscriptTail" => (k_here; (with_reducible show wpAny _ _ (subscriptTail (PySem.Expr.List _ _) _ (Value.ref _) (Value.int _ _)) _ _ _); (with_unfolding_all (first | (refine' item_menuB 1 8 ?k1 ?k2 ?k3 ?k4 ?k5 ?kb ?_; (case k1 => is_list); (case k2 => l_ints); (case kb => decide); (case k3 => l_idx); (case k4 => l_idx); (case k5 => l_idx); k_whole) | (refine' item_menuB 1 9 ?k1 ?k2 ?k3 ?k4 ?k5 ?kb ?_; (case k1 => is_list); (case k2 => l_ints); (case kb => decide); (case k3 => l_idx); (case k4 => l_idx); (case k5 => l_idx); k_whole) | (refine' item_menuB 1 65535 ?k1 ?k2 ?k3 ?k4 ?k5 ?kb ?_; (case k1 => is_list); (case k2 => l_ints); (case kb => decide); (case k3 => l_idx); (case k4 => l_idx); (case k5 => l_idx); k_whole) | (refine' item_menuB (-7) 130 ?k1 ?k2 ?k3 ?k4 ?k5 ?kb ?_; (case k1 => is_list); (case k2 => l_ints); (case kb => decide); (case k3 => l_idx); (case k4 => l_idx); (case k5 => l_idx); k_whole))); intro _ _ _ _)
  trivial
inductive Drops (src : Addr) (o : Obj) : List (Addr × Obj) → List (Addr × Obj) → Prop
  | here {r} : Drops src o ((src, o) :: r) r
  | there {p r r'} : Drops src o r r' → Drops src o (p :: r) (p :: r')
theorem Drops.mem {src : Addr} {o : Obj} : ∀ {l r : List (Addr × Obj)}, Drops src o l r → ∀ p ∈ (src, o) :: r, p ∈ l
  | _, _, .here, _, h => h
  | _, _, .there d, p, h => by
    rcases List.mem_cons.mp h with h | h
    · exact .tail _ (d.mem _ (by rw [h]; exact .head _))
    · rcases List.mem_cons.mp h with h | h
      · rw [h]; exact .head _
      · exact .tail _ (d.mem _ (.tail _ h))
theorem drops_news {h₀ h : Heap} {L src : Addr} {o : Obj} {l r : List (Addr × Obj)} (N : News h₀ L h l) (d : Drops src o l r) : News h₀ L h ((src, o) :: r) := fun p hp => N p (d.mem p hp)
structure NE (a b : Nat) : Prop where
  out : a ≠ b
def AllNE (D : Addr) : List (Addr × Obj) → Prop
  | [] => True
  | p :: r => NE p.1 D ∧ AllNE D r
theorem AllNE.of {D : Addr} : ∀ {l : List (Addr × Obj)}, LCg.Off1 D l → AllNE D l
  | [], _ => trivial
  | _ :: _, h => ⟨⟨h.1⟩, AllNE.of h.2⟩
def AllNE3 (I C D : Addr) : List (Addr × Obj) → Prop
  | [] => True
  | p :: r => NE p.1 I ∧ NE p.1 C ∧ NE p.1 D ∧ AllNE3 I C D r
theorem AllNE3.of {I C D : Addr} : ∀ {l : List (Addr × Obj)}, LCg.Off3 I C D l → AllNE3 I C D l
  | [], _ => trivial
  | _ :: _, h => ⟨⟨h.1.1⟩, ⟨h.1.2.1⟩, ⟨h.1.2.2⟩, AllNE3.of h.2⟩
theorem AllNE.get {D a : Addr} {o : Obj} : ∀ {l : List (Addr × Obj)}, AllNE D l → (a, o) ∈ l → a ≠ D
  | _ :: _, h, hm => by
    rcases List.mem_cons.mp hm with e | hm
    · have := h.1.out; rw [← e] at this; exact this
    · exact AllNE.get h.2 hm
theorem AllNE3.getI {I C D a : Addr} {o : Obj} : ∀ {l : List (Addr × Obj)}, AllNE3 I C D l → (a, o) ∈ l → a ≠ I
  | _ :: _, h, hm => by
    rcases List.mem_cons.mp hm with e | hm
    · have := h.1.out; rw [← e] at this; exact this
    · exact AllNE3.getI h.2.2.2 hm
theorem AllNE3.getC {I C D a : Addr} {o : Obj} : ∀ {l : List (Addr × Obj)}, AllNE3 I C D l → (a, o) ∈ l → a ≠ C
  | _ :: _, h, hm => by
    rcases List.mem_cons.mp hm with e | hm
    · have := h.2.1.out; rw [← e] at this; exact this
    · exact AllNE3.getC h.2.2.2 hm
theorem AllNE3.getD {I C D a : Addr} {o : Obj} : ∀ {l : List (Addr × Obj)}, AllNE3 I C D l → (a, o) ∈ l → a ≠ D
  | _ :: _, h, hm => by
    rcases List.mem_cons.mp hm with e | hm
    · have := h.2.2.1.out; rw [← e] at this; exact this
    · exact AllNE3.getD h.2.2.2 hm
theorem pull2 {h₀ h : Heap} {L : Addr} {l : List (Addr × Obj)} {p1 p2 : Addr × Obj} (N : News h₀ L h l) (h1 : p1 ∈ l) (h2 : p2 ∈ l) : News h₀ L h (p1 :: p2 :: l) := fun p hp => by
  rcases List.mem_cons.mp hp with rfl | hp
  · exact N _ h1
  · rcases List.mem_cons.mp hp with rfl | hp
    · exact N _ h2
    · exact N _ hp
theorem pull3 {h₀ h : Heap} {L : Addr} {l : List (Addr × Obj)} {p1 p2 p3 : Addr × Obj} (N : News h₀ L h l) (h1 : p1 ∈ l) (h2 : p2 ∈ l) (h3 : p3 ∈ l) : News h₀ L h (p1 :: p2 :: p3 :: l) := fun p hp => by
  rcases List.mem_cons.mp hp with rfl | hp
  · exact N _ h1
  · exact pull2 N h2 h3 p hp
theorem getD_rng {f : Int → Int} {n : Nat} {k : Int} (h0 : 0 ≤ k) (h1 : k < (n : Int)) : ((rangeKs 0 n).map f).getD k.toNat 0 = f k := by
  have h2 : k.toNat < n := by omega
  rw [List.getD_eq_getElem?_getD, List.getElem?_map]
  unfold rangeKs
  rw [List.getElem?_map, List.getElem?_range h2]
  simp only [Option.map_some, Option.getD_some]
  congr 1
  omega
theorem rng_len {f : Int → Int} {n : Nat} : ((rangeKs 0 n).map f).length = n := by rw [List.length_map, rangeKs_length]
theorem ints_ext {ns ms : List Int} (hl : ns.length = ms.length) (h : ∀ k : Int, 0 ≤ k → k < ns.length → ns.getD k.toNat 0 = ms.getD k.toNat 0) : ns = ms := by
  refine List.ext_getElem hl (fun i h1 h2 => ?_)
  have := h (i : Int) (by omega) (by omega)
  simpa [List.getD_eq_getElem?_getD, h1, h2] using this
theorem nr_mul {t d : Int} (hd : 1 ≤ d) : nr (t * d) d = t := by
  obtain ⟨A, q, P, hA, hq, hP, h1, h2, h3, h4, h5, h6, h7⟩ := nr_spec (x := t * d) hd
  have key : ∀ u : Int, 0 ≤ u → ∀ A : Int, A = u * d → 2 * P ≤ 2 * A + d → 2 * A + d < 2 * P + 2 * d → q = u := by
    intro u hu A hA' h3 h4
    subst hA'
    subst hP
    have e1 : ¬ q < u := fun hlt => by
      have := Int.mul_le_mul_of_nonneg_right (show q + 1 ≤ u by omega) (show 0 ≤ d by omega)
      rw [Int.add_mul, Int.one_mul] at this
      omega
    have e2 : ¬ u < q := fun hlt => by
      have := Int.mul_le_mul_of_nonneg_right (show u + 1 ≤ q by omega) (show 0 ≤ d by omega)
      rw [Int.add_mul, Int.one_mul] at this
      omega
    omega
  rcases h5 with ⟨hx, hA2, hn⟩ | ⟨hx, hA2, hn⟩
  · have ht : t < 0 := by
      rcases Int.lt_or_le t 0 with h | h
      · exact h
      · have := Int.mul_nonneg h (show 0 ≤ d by omega); omega
    have := key (-t) (by omega) A (by rw [hA2, Int.neg_mul]) h3 h4
    omega
  · have ht : 0 ≤ t := by
      rcases Int.lt_or_le t 0 with h | h
      · have h8 := Int.mul_le_mul_of_nonneg_right (show t ≤ -1 by omega) (show 0 ≤ d by omega)
        omega
      · exact h
    have := key t ht A hA2 h3 h4
    omega
section
variable {w : World} {p : Program} {loose : List Str} {mean : ExcName → Option Value} {mg mb : Str → Option Value}
    {dp un : Nat} {gd : Option (List Code)} {cn : Str} {cs : Scope} {a : Addr} {ccd : Value} {cl : List (Str × Addr)} {outer : List Env} {A₀ : Around} {base h₀ : Heap} {L : Addr} {m : Str → Option Value} {s : Shared} {Q E : Value → Shared → Prop}
    {row qt ot : Addr} {rvs qvs ovs : List Value} {rs qs os : List Int} {n : Nat} {news : List (Addr × Obj)}
def RetList (h₀ : Heap) (L : Addr) (m : Str → Option Value) (s : Shared) (Q : Value → Shared → Prop) (news : List (Addr × Obj)) (len : Nat) (f : Int → Int) : Prop :=
  ∀ r vs ns n' h' tk', Fr h₀ L h' m → News h₀ L h' ((r, listOf vs.toArray n') :: news) → IntsAre vs ns → ns.length = len → (∀ k : Int, 0 ≤ k → k < (len : Int) → ns.getD k.toNat 0 = f k) → LCg.Off1 r news → Q (.ref r) { s with heap := h', toks := tk' }
theorem quant_call {sc : Int} {tsc : Tok} (B : Below A₀ base outer h₀) (F : Fr h₀ L s.heap m) (X : (Mine.hd.heap_39 w.params).In h₀) (N : News h₀ L s.heap news) (m1 : (row, listOf rvs.toArray n) ∈ news) (m2 : (qt, tupOf qvs) ∈ news) (T : Top p loose mean mg mb h₀)
    (hk : cs.kind = .function) (hI : IntsAre rvs rs) (hJ : IntsAre qvs qs) (hl : rs.length ≤ 9) (hl2 : qs.length = rs.length) (hq : ∀ v ∈ qs, 1 ≤ v ∧ v ≤ 65535) (hs1 : 1 ≤ sc) (hs2 : sc ≤ 8) (hd : dp + 8 < recursionLimit) (hu : un + 100 < cLine)
    (ret : RetList h₀ L m s Q news rs.length (fun k => nr (rs.getD k.toNat 0) (qs.getD k.toNat 0 * sc))) :
    wpAny (model PySem.Challenge.rw_nt0538_01.row.prog w) (ktrTop dp un gd cn cs L a ccd cl outer) (call (.ref 93) [.ref row, .ref qt, .int sc tsc]) Q E s :=
  quant_ok B F X (pull2 N m1 m2) T hk hI hJ hl hl2 hq hs1 hs2 hd hu (fun r vs n' h' tk' F' N' hI' hof => ret r vs _ n' h' tk' F' (cb_drop N' (by kcf_all)) hI' rng_len (fun k h0 h1 => getD_rng h0 h1) hof)
theorem deq_call (B : Below A₀ base outer h₀) (F : Fr h₀ L s.heap m) (X : (Mine.hd.heap_39 w.params).In h₀) (N : News h₀ L s.heap news) (m1 : (row, listOf rvs.toArray n) ∈ news) (m2 : (qt, tupOf qvs) ∈ news) (T : Top p loose mean mg mb h₀)
    (hk : cs.kind = .function) (hI : IntsAre rvs rs) (hJ : IntsAre qvs qs) (hl : rs.length ≤ 9) (hl2 : qs.length = rs.length) (hq : ∀ v ∈ qs, 1 ≤ v ∧ v ≤ 65535) (hd : dp + 3 < recursionLimit) (hu : un + 40 < cLine)
    (ret : RetList h₀ L m s Q news rs.length (fun k => rs.getD k.toNat 0 * qs.getD k.toNat 0)) :
    wpAny (model PySem.Challenge.rw_nt0538_01.row.prog w) (ktrTop dp un gd cn cs L a ccd cl outer) (call (.ref 98) [.ref row, .ref qt]) Q E s :=
  deq_ok B F X (pull2 N m1 m2) T hk hI hJ hl hl2 hq hd hu (fun r vs n' h' tk' F' N' hI' hof => ret r vs _ n' h' tk' F' (cb_drop N' (by kcf_all)) hI' rng_len (fun k h0 h1 => getD_rng h0 h1) hof)
theorem req_call (B : Below A₀ base outer h₀) (F : Fr h₀ L s.heap m) (X : (Mine.hd.heap_39 w.params).In h₀) (N : News h₀ L s.heap news) (m1 : (row, listOf rvs.toArray n) ∈ news) (m2 : (qt, tupOf qvs) ∈ news) (m3 : (ot, tupOf ovs) ∈ news) (T : Top p loose mean mg mb h₀)
    (hk : cs.kind = .function) (hI : IntsAre rvs rs) (hJ : IntsAre qvs qs) (hO : IntsAre ovs os) (hl : rs.length ≤ 9) (hl2 : qs.length = rs.length) (hl3 : os.length = rs.length) (hq : ∀ v ∈ qs, 1 ≤ v ∧ v ≤ 65535) (hq3 : ∀ v ∈ os, 1 ≤ v ∧ v ≤ 65535) (hd : dp + 8 < recursionLimit) (hu : un + 100 < cLine)
    (ret : RetList h₀ L m s Q news rs.length (fun k => nr (rs.getD k.toNat 0 * qs.getD k.toNat 0) (os.getD k.toNat 0))) :
    wpAny (model PySem.Challenge.rw_nt0538_01.row.prog w) (ktrTop dp un gd cn cs L a ccd cl outer) (call (.ref 103) [.ref row, .ref qt, .ref ot]) Q E s :=
  req_ok B F X (pull3 N m1 m2 m3) T hk hI hJ hO hl hl2 hl3 hq hq3 hd hu (fun r vs n' h' tk' F' N' hI' hof => ret r vs _ n' h' tk' F' (cb_drop N' (by kcf_all)) hI' rng_len (fun k h0 h1 => getD_rng h0 h1) hof)
end
theorem draw_end {h₀ h' : Heap} {L src I C D : Addr} {m : Str → Option Value} {s₁ : Shared} {oI oC : Obj} {o0 : Obj} {ys : List Value} {S : List (Addr × Obj) → Prop} {pre rest : List (Addr × Obj)} {good : Int → Prop} {i n tk : Nat} {ns : List Int} {x y v : Int} {tx ty t : Tok}
    (F : Fr h₀ L h' m) (N : News h₀ L h' ((src, listOf #[.int x tx, .int y ty] n) :: (I, oI) :: (C, oC) :: (D, LCg.lst ys) :: (pre ++ rest))) (off : LCg.Off3 I C D (pre ++ (src, o0) :: rest)) (hS : S (pre ++ (src, listOf #[.int x tx, .int y ty] n) :: rest))
    (hI : IntsAre ys ns) (hl : ns.length = i) (hg : ∀ v ∈ ns, good v) (hx : 0 ≤ x) (hy : 0 ≤ y) (hyy : y < 2147483647) (hv : good v) :
    LCg.CompEnd h₀ L m s₁ I oI C oC D (LCg.lst ys) S (fun y nw' => DrawJ pre rest src good (i + 1) (ys ++ [y]) nw') (.int v t) { s₁ with heap := h', toks := tk } := by
  refine LCg.CompEnd.intro F N (pre ++ (src, listOf #[.int x tx, .int y ty] n) :: rest) (fun p hp => ?_) ?_ hS (DrawJ.succ hI hl hg hx hy hyy hv)
  · simp only [List.mem_cons, List.mem_append] at hp ⊢
    rcases hp with h | h | h | h | h | h
    · exact .inr (.inl h)
    · exact .inr (.inr (.inl h))
    · exact .inr (.inr (.inr (.inl h)))
    · exact .inr (.inr (.inr (.inr (.inl h))))
    · exact .inl h
    · exact .inr (.inr (.inr (.inr (.inr h))))
  · have key : ∀ l : List (Addr × Obj), LCg.Off3 I C D (l ++ (src, o0) :: rest) → LCg.Off3 I C D (l ++ (src, listOf #[.int x tx, .int y ty] n) :: rest) := by
      intro l
      induction l with
      | nil => exact fun h => h
      | cons q r ih => exact fun h => ⟨h.1, ih h.2⟩
    exact key pre off
def NoneT (h₀ : Heap) (L : Addr) (m : Str → Option Value) (s₁ : Shared) (I : Addr) (oI : Obj) (C : Addr) (oC : Obj) (D : Addr) (S : List (Addr × Obj) → Prop) (news : List (Addr × Obj)) (ok : Bool) (s₂ : Shared) : Prop :=
  ok = false ∧ LCg.CompEnd h₀ L m s₁ I oI C oC D (LCg.lst []) S (fun _ nw' => nw' = news) Value.none s₂
theorem comp_noneT {prog : Program} {w : World} {A : Around} {h₀ : Heap} {L : Addr} {m : Str → Option Value} {env : Env} {ct elt : PySem.Expr} {x : Str} {scope : Scope} {cl : List (Str × Addr)} {s : Shared} {S : List (Addr × Obj) → Prop} {P : Nat → Value → Prop}
    {Fin : List Value → List (Addr × Obj) → Prop} {n : Nat} {news : List (Addr × Obj)}
    (turn : ∀ i, i < n → ∀ v I oI C oC D m₂ h tk (E' : Value → Shared → Prop), P i v → LCg.NsObj oC m₂ → m₂ x = some v → Fr h₀ L h m → News h₀ L h ((I, oI) :: (C, oC) :: (D, LCg.lst []) :: news) → LCg.Off3 I C D news → ((@Ne Nat I C) ∧ (@Ne Nat I D) ∧ (@Ne Nat C D)) →
      wpAny (model prog w) A (isTrue ct (compEnvC scope cl C env) (eval ct (compEnvC scope cl C env))) (NoneT h₀ L m { s with heap := h, toks := tk } I oI C oC D S news) E' { s with heap := h, toks := tk })
    (fin : Fin [] news) : LCt.CompRestT prog w A h₀ L m env ct elt x scope cl s S P Fin n 0 [] news := by
  have key : ∀ (j i : Nat), i + j = n → LCt.CompRestT prog w A h₀ L m env ct elt x scope cl s S P Fin j i [] news := by
    intro j
    induction j with
    | zero =>
      intro i hi
      exact LCt.CompRestT.zero fin
    | succ j ih =>
      intro i hi
      refine LCt.CompRestT.succ ?_
      intro v I oI C oC D m₂ h tk E' hv hC hx F N off ne
      refine wpAny_mono (turn i (by omega) v I oI C oC D m₂ h tk E' hv hC hx F N off ne) (fun ok s₂ hq => ?_) fun _ _ e => e
      obtain ⟨rfl, h', tk', nw', e, F', N', off', hS, rfl⟩ := hq
      exact ⟨h', tk', nw', e, F', N', off', hS, ih (i + 1) (by omega)⟩
  exact key n 0 (by omega)
section
variable {prog : Program} {w : World} {A : Around} {E : Value → Shared → Prop} {s : Shared} {h₀ : Heap} {L l : Addr} {news : List (Addr × Obj)} {value slice : PySem.Expr} {vs : List Value} {ns : List Int} {k : Int} {u : Tok} {n : Nat} {Q : Value → Shared → Prop}
theorem item_LI (N : News h₀ L s.heap news) (hm : (l, listOf vs.toArray n) ∈ news) (hi : IntsAre vs ns) (h0 : 0 ≤ k) (h1 : k < ns.length) (hfit : ns.length ≤ 1000) (h : ∀ t, Q (.int (ns.getD k.toNat 0) t) s)
    (hs : subscripted slice false (.ref l) (.int k u) = operate [.ref l, .int k u] (getItem (.ref l) (.int k u))) (hg : ∀ r, letTemporaryGo value (.ref l) r = pure ()) :
    wpAny (model prog w) A (subscriptTail value slice (.ref l) (.int k u)) Q E s := item_list_ints (News.isList N hm) hi h0 h1 (by omega) h hs hg
theorem item_TI (N : News h₀ L s.heap news) (hm : (l, tupOf vs) ∈ news) (hi : IntsAre vs ns) (h0 : 0 ≤ k) (h1 : k < ns.length) (hfit : ns.length ≤ 1000) (h : ∀ t, Q (.int (ns.getD k.toNat 0) t) s)
    (hs : subscripted slice false (.ref l) (.int k u) = operate [.ref l, .int k u] (getItem (.ref l) (.int k u))) (hg : ∀ r, letTemporaryGo value (.ref l) r = pure ()) :
    wpAny (model prog w) A (subscriptTail value slice (.ref l) (.int k u)) Q E s := item_tuple_ints (News.isTup N hm) hi h0 h1 (by omega) h hs hg
end
theorem off_ne {a b c : Nat} (h : (b == c) = false) : @Ne Nat (a + b) (a + c) := fun e => by
  have := Nat.add_left_cancel e
  rw [this, beq_self_eq_true] at h
  cases h
theorem k_lo {k : Int} {i : Nat} (h : k = 0 + (i : Int) * 1) : 0 ≤ k := by omega
theorem k_hi {k : Int} {i n : Nat} (h : k = 0 + (i : Int) * 1) (hi : i < ((n : Int) - 0).toNat) : k < (n : Int) := by omega
section
theorem words_16 : True := by
  k_with_none
  k_with "own k_all" => (assumption)
  k_with "my subscriptTail Name Constant ref int" => (k_here; (with_reducible show wpAny _ _ (subscriptTail _ _ (Value.ref _) (Value.int _ _)) _ _ _); (with_unfolding_all refine' item_litK ?k1 ?k2 ?k3 ?k4 ?_ ?k6; (case k1 => is_list); (case k2 => decide); (case k3 => decide); (case k4 => rfl); (case k6 => with_unfolding_all rfl); k_whole))
  k_with "my take asks" => ( (case k2 => k_asm); (case k1 => k_asm); (case k3 => k_asm); (case k5 => k_asm); (case kK => first | exact rfl | assumption); (case kr => k_all); (case kx => assumption); (case ky => assumption); (case ky2 => assumption); (case kt => first | decide | omega); (case kt2 => first | decide | omega); (case kd => ktr_room); (case ku => ktr_units); intro _ _ _ _ _ _ _ _ _ _ N' _ _ _ _ _; (try simp only [List.nil_append, List.cons_append] at N'); (try dsimp only); (try k_fold); (have N' := True.intro))
  k_with "my call ref" => (k_here; (with_reducible show wpAny _ _ (call (Value.ref 124) _) _ _ _); k_dflt (first | (refine' take_call (pre := []) ?k1 ?k2 ?k3 ?k4 ?k5 ?kK ?kr ?kx ?ky ?ky2 ?kt ?kt2 ?kd ?ku ?_; (case k4 => assumption); walk_at "take asks") | (refine' take_call (pre := [_]) ?k1 ?k2 ?k3 ?k4 ?k5 ?kK ?kr ?kx ?ky ?ky2 ?kt ?kt2 ?kd ?ku ?_; (case k4 => assumption); walk_at "take asks") | (refine' take_call (pre := [_, _]) ?k1 ?k2 ?k3 ?k4 ?k5 ?kK ?kr ?kx ?ky ?ky2 ?kt ?kt2 ?kd ?ku ?_; (case k4 => assumption); walk_at "take asks") | (refine' take_call (pre := [_, _, _]) ?k1 ?k2 ?k3 ?k4 ?k5 ?kK ?kr ?kx ?ky ?ky2 ?kt ?kt2 ?kd ?ku ?_; (case k4 => assumption); walk_at "take asks") | (refine' take_call (pre := [_, _, _, _]) ?k1 ?k2 ?k3 ?k4 ?k5 ?kK ?kr ?kx ?ky ?ky2 ?kt ?kt2 ?kd ?ku ?_; (case k4 => assumption); walk_at "take asks") | (refine' take_call (pre := [_, _, _, _, _]) ?k1 ?k2 ?k3 ?k4 ?k5 ?kK ?kr ?kx ?ky ?ky2 ?kt ?kt2 ?kd ?ku ?_; (case k4 => assumption); walk_at "take asks") | (refine' take_call (pre := [_, _, _, _, _, _]) ?k1 ?k2 ?k3 ?k4 ?k5 ?kK ?kr ?kx ?ky ?ky2 ?kt ?kt2 ?kd ?ku ?_; (case k4 => assumption); walk_at "take asks")))
  k_with "own k_all" => (first | assumption | exact lt_ne0 (by assumption) (by omega) | exact lt_ne1 (by assumption) (by omega) | exact lt_ne2 (by assumption) (by omega) | exact lt_ne3 (by assumption) (by omega))
  k_with "my enter C" => (refine' code_defC ?k1 ?k2 ?k3 ?k4 ?k5 ?kA ?kF ?kK ?k6 ?k7 ?k8 ?k9 ?kB ?kD ?_ ?c2 ?c3 ?c4; (case kA => exact rfl); (case kF => exact rfl); (case kK => assumption); (case k1 => k_asm); (case k2 => k_asm); (case k3 => k_asm); (case k4 => k_asm); (case k5 => k_asm); (case k6 => k_is); (case k7 => k_is); (case k8 => ktr_room); (case k9 => exact BindsTo.of_eq rfl); (case kB => exact rfl); (case kD => decide +kernel); (case c2 => exact rfl); (case c3 => exact rfl); (case c4 => exact rfl); k_whole; intro _ _ _ _ _ _ _ N' Y' B' _ _ l1; (have l2 := l1); (try k_lt l1); k_cells Y'; (try simp only [List.cons_append, List.nil_append] at N'); (try dsimp only); (try k_lift B'); (try k_fold); (have N' := True.intro); (have Y' := True.intro); (have B' := True.intro); (have l1 := True.intro); (have l2 := True.intro))
  k_with "my subscriptTail" => (k_here; (with_reducible show wpAny _ _ (subscriptTail (PySem.Expr.List _ _) _ (Value.ref _) (Value.int _ _)) _ _ _); (with_unfolding_all (first | (refine' item_menuB 1 65535 ?k1 ?k2 ?k3 ?k4 ?k5 ?kb ?_; (case k1 => is_list); (case k2 => l_ints); (case kb => decide); (case k3 => l_idx); (case k4 => l_idx); (case k5 => l_idx); k_whole) | (refine' item_menuB (-7) 130 ?k1 ?k2 ?k3 ?k4 ?k5 ?kb ?_; (case k1 => is_list); (case k2 => l_ints); (case kb => decide); (case k3 => l_idx); (case k4 => l_idx); (case k5 => l_idx); k_whole))); intro _ _ _ _)
  k_with "my eval ListComp" => (k_here; k_dflt (refine LCg.ListComp_U (F₀ := by k_asm) (by with_unfolding_all rfl) (by decide) (by rfl) (by decide) (by rfl) ?_))
  k_with "my CompSrc" => (k_here; k_dflt (refine LCg.CompSrc.range (by rfl) (by k_asm) (by k_asm) (by assumption) (by first | exact small_one (by kcf_bnd) (by kcf_bnd) (by kcf_bnd) (by kcf_bnd) | decide) (by first | exact rangeSize_nat _ _ | rfl) (by first | (rw [PySem.sizeLine_eq]; omega) | (rw [PySem.sizeLine_eq]; (simp only [List.size_toArray]); omega) | size_fits) ?_; intro _))
  k_with "my CompRest" => (fail "mine")
  k_with "my compareOp Eq ref ref" => (k_here; k_dflt (first | (refine' tup_eq ?k1 ?k2 ?k3 ?k4 ?k5 ?_; (case k1 => exact News.isTup (by k_asm) (by k_mem)); (case k2 => exact News.isTup (by k_asm) (by k_mem)); (case k3 => l_ints); (case k4 => l_ints); (case k5 => ktr_units); k_whole) | (refine' eq_intsK ?k1 ?k2 ?k3 ?k4 ?k5 ?_; (case k1 => is_list); (case k2 => l_ints); (case k3 => is_list); (case k4 => l_ints); (case k5 => ktr_units); k_whole)))
  k_with "my compareOp NotEq ref ref" => (k_here; k_dflt (first | (refine' tup_ne ?k1 ?k2 ?k3 ?k4 ?k5 ?_; (case k1 => exact News.isTup (by k_asm) (by k_mem)); (case k2 => exact News.isTup (by k_asm) (by k_mem)); (case k3 => l_ints); (case k4 => l_ints); (case k5 => ktr_units); k_whole) | (refine' ne_intsK ?k1 ?k2 ?k3 ?k4 ?k5 ?_; (case k1 => is_list); (case k2 => l_ints); (case k3 => is_list); (case k4 => l_ints); (case k5 => ktr_units); k_whole)))
  k_with "my call type:tuple" => (k_here; (with_reducible show wpAny _ _ (call (Value.type _) [Value.ref _]) _ _ _); k_dflt (refine' call_tuple_tup ?k1 ?_; (case k1 => exact News.isTup (by k_asm) (by k_mem)); k_whole))
  k_with "my call builtin:len" => (k_here; (with_reducible show wpAny _ _ (call (Value.builtin "len") [Value.ref _]) _ _ _); k_dflt (refine' len_tupI ?k1 ?k2 ?k3 ?_; (case k1 => exact News.isTup (by k_asm) (by k_mem)); (case k2 => l_ints); (case k3 => omega); k_whole))
  k_with "my q of" => (first | exact q0 (by assumption) | exact q1 (by assumption) | exact q2 (by assumption) | exact q3 (by assumption) | exact q4 (by assumption) | exact q5 (by assumption) | exact q6 (by assumption) | exact q7 (by assumption) | exact q8 (by assumption) | exact q9 (by assumption))
  k_with "my q lt" => (first | assumption | exact Nat.lt_succ_self _ | walk_at "q of")
  k_with "my q ne" => (first | (refine' Nat.lt_of_lt_of_le ?h q_u7; (case h => walk_at "q lt")) | (refine' Nat.lt_of_lt_of_le ?h q_u6; (case h => walk_at "q lt")) | (refine' Nat.lt_of_lt_of_le ?h q_u5; (case h => walk_at "q lt")) | (refine' Nat.lt_of_lt_of_le ?h q_u4; (case h => walk_at "q lt")) | (refine' Nat.lt_of_lt_of_le ?h q_u3; (case h => walk_at "q lt")) | (refine' Nat.lt_of_lt_of_le ?h q_u2; (case h => walk_at "q lt")) | (refine' Nat.lt_of_lt_of_le ?h q_u1; (case h => walk_at "q lt")) | walk_at "q lt")
  k_with "my q eq" => (first | (refine' Eq.trans (by assumption) ?q; (case q => walk_at "q eq")) | (refine' Eq.trans q_t0 ?q; (case q => walk_at "q eq")) | exact rfl)
  k_with "own omega" => (first | decide | with_reducible first | assumption | (refine' q_gt ?q; (case q => walk_at "q ne")) | (refine' Ne.symm (q_gt ?q); (case q => walk_at "q ne")) | exact q_room1 (by assumption) rfl | exact q_room (by assumption) rfl | exact q_room0 (by assumption) | exact q_i0 | exact q_nlo | exact q_nhi (by assumption) | exact q_cnt (by assumption) | exact q_pos (by assumption) | exact q_blo (by assumption) | exact q_bhi (by assumption) | exact q_ble (by assumption) rfl | exact q_vlt (by assumption) rfl | exact q_vle (by assumption) rfl | (refine' q_ll ?e ?h; (case e => walk_at "q eq"); (case h => walk_at "q eq")) | (refine' q_kl ?h ?e ?f; (case h => assumption); (case e => walk_at "q eq"); (case f => walk_at "q eq")) | (refine' q_ix ?h ?e ?f; (case h => assumption); (case e => walk_at "q eq"); (case f => walk_at "q eq")) | (refine' q_le ?e ?h ?b; (case e => walk_at "q eq"); (case h => first | assumption | decide); (case b => decide)) | (refine' q_lhi ?e ?h; (case e => walk_at "q eq"); (case h => assumption)) | exact q_u1 | exact q_u2 | exact q_u3 | exact q_u4 | exact q_u5 | exact q_u6 | exact q_u7 | walk_at "q of")
  k_with "my subscriptTail" => (k_here; (with_reducible show wpAny _ _ (subscriptTail (PySem.Expr.List _ _) _ (Value.ref _) (Value.int _ _)) _ _ _); (with_unfolding_all (first | (refine' item_menuB 1 8 ?k1 ?k2 ?k3 ?k4 ?k5 ?kb ?_; (case k1 => is_list); (case k2 => l_ints); (case kb => decide); (case k3 => l_idx); (case k4 => l_idx); (case k5 => l_idx); k_whole) | (refine' item_menuB 1 9 ?k1 ?k2 ?k3 ?k4 ?k5 ?kb ?_; (case k1 => is_list); (case k2 => l_ints); (case kb => decide); (case k3 => l_idx); (case k4 => l_idx); (case k5 => l_idx); k_whole) | (refine' item_menuB 1 65535 ?k1 ?k2 ?k3 ?k4 ?k5 ?kb ?_; (case k1 => is_list); (case k2 => l_ints); (case kb => decide); (case k3 => l_idx); (case k4 => l_idx); (case k5 => l_idx); k_whole) | (refine' item_menuB (-7) 130 ?k1 ?k2 ?k3 ?k4 ?k5 ?kb ?_; (case k1 => is_list); (case k2 => l_ints); (case kb => decide); (case k3 => l_idx); (case k4 => l_idx); (case k5 => l_idx); k_whole))); intro _ _ _ _)
  k_with "own k_ne" => ((refine neN ?_; (try dsimp only); first | exact NE.out (by with_reducible assumption) | exact (NE.out (by with_reducible assumption)).symm | exact AllNE.get (by with_reducible assumption) (by k_mem) | exact (AllNE.get (by with_reducible assumption) (by k_mem)).symm | exact (AllNE3.getI (by with_reducible assumption) (by k_mem)).symm | exact (AllNE3.getC (by with_reducible assumption) (by k_mem)).symm | exact (AllNE3.getD (by with_reducible assumption) (by k_mem)).symm | omega))
  k_with "my drops" => (first | exact Drops.here | (refine' Drops.there ?kq; (case kq => (walk_at "drops"))))
  k_with "my pool asks" => ((case k2 => k_asm); (case k1 => k_asm); (case k3 => k_asm); (case k5 => k_asm); (case kN => assumption); (case kD => (walk_at "drops")); (case kK => first | exact rfl | assumption); (case kr => k_all); (case kx => assumption); (case ky => assumption); (case ky2 => assumption); (case kt => first | decide | omega); (case kt2 => first | decide | omega); (case kd => ktr_room); (case ku => ktr_units))
  k_with "my call ref" => (k_here; (with_reducible show wpAny _ _ (call (Value.ref 124) _) _ _ _); k_dflt (refine' take_ok ?k1 ?k2 ?k3 (drops_news ?kN ?kD) ?k5 ?kK ?kr ?kx ?ky ?ky2 ?kt ?kt2 ?kd ?ku ?_; (walk_at "pool asks"); intro _ _ _ _ _ _ _ _ _ _ _ _ _ _ _ _; (try dsimp only); (try k_fold)))
  k_with "my call ref" => (k_here; (with_reducible show wpAny _ _ (call (Value.ref 131) _) _ _ _); k_dflt (refine' number_ok ?k1 ?k2 ?k3 (drops_news ?kN ?kD) ?k5 ?kK ?kr ?kx ?ky ?ky2 ?kt ?kt2 ?kd ?ku ?_; (walk_at "pool asks"); intro _ _ _ _ _ _ _ _ _ _ _ _ _ _ _ _; (try dsimp only); (try k_fold)))
  k_with "my call ref" => (k_here; (with_reducible show wpAny _ _ (call (Value.ref 136) _) _ _ _); k_dflt (refine' table_ok ?k1 ?k2 ?k3 (drops_news ?kN ?kD) ?k5 ?kK ?kr ?kx ?ky ?ky2 ?kt ?kd ?ku ?kt2 ?_; (walk_at "pool asks"); intro _ _ _ _ _ _ _ _ _ _ _ _ ne' hof' _ _ _ _ _ _; (replace ne' := NE.mk ne'); (replace hof' := AllNE.of hof'); revert ne' hof'; intro _ _; (try dsimp only); (try k_fold)))
  k_with "my list asks" => ((case k2 => k_asm); (case k1 => k_asm); (case k3 => k_asm); (case k4 => k_asm); (case k5 => k_asm); (case m1 => k_mem); (case m2 => k_mem); (case kK => first | exact rfl | assumption); (case i1 => l_ints); (case i2 => l_ints); (case l1 => omega); (case l2 => omega); (case kd => ktr_room); (case ku => ktr_units))
  k_with "my list says" => ((unfold RetList); intro _ _ _ _ _ _ _ _ _ _ _ hof'; (replace hof' := AllNE.of hof'); revert hof'; intro _; (try dsimp only); (try k_fold))
  k_with "my call ref" => (k_here; (with_reducible show wpAny _ _ (call (Value.ref 93) _) _ _ _); k_dflt (refine' quant_call ?k1 ?k2 ?k3 ?k4 ?m1 ?m2 ?k5 ?kK ?i1 ?i2 ?l1 ?l2 ?q1 ?s1 ?s2 ?kd ?ku ?_; (walk_at "list asks"); (case q1 => assumption); (case s1 => first | decide | omega); (case s2 => first | decide | omega); (walk_at "list says")))
  k_with "my call ref" => (k_here; (with_reducible show wpAny _ _ (call (Value.ref 98) _) _ _ _); k_dflt (refine' deq_call ?k1 ?k2 ?k3 ?k4 ?m1 ?m2 ?k5 ?kK ?i1 ?i2 ?l1 ?l2 ?q1 ?kd ?ku ?_; (walk_at "list asks"); (case q1 => assumption); (walk_at "list says")))
  k_with "my call ref" => (k_here; (with_reducible show wpAny _ _ (call (Value.ref 103) _) _ _ _); k_dflt (refine' req_call ?k1 ?k2 ?k3 ?k4 ?m1 ?m2 ?m3 ?k5 ?kK ?i1 ?i2 ?i3 ?l1 ?l2 ?l3 ?q1 ?q2 ?kd ?ku ?_; (walk_at "list asks"); (case m3 => k_mem); (case i3 => l_ints); (case l3 => omega); (case q1 => assumption); (case q2 => assumption); (walk_at "list says")))
  k_with "my call ref" => (k_here; (with_reducible show wpAny _ _ (call (Value.ref 143) _) _ _ _); k_dflt (refine' isnr_ok ?k1 ?k2 ?k3 ?k4 ?k5 ?kK ?ka ?kb ?ky ?kd ?ku ?_; (case k2 => k_asm); (case k1 => k_asm); (case k3 => k_asm); (case k4 => k_asm); (case k5 => k_asm); (case kK => first | exact rfl | assumption); (case ka => omega); (case kb => omega); (case ky => assumption); (case kd => ktr_room); (case ku => ktr_units); intro _ _ _ _; (try dsimp only); (try k_fold)))
  k_with "my FinE" => ((unfold LCg.FinE); intro _ _ _ _ N'; (try simp only [List.nil_append, List.cons_append] at N'); revert N'; intro _ o1'; (replace o1' := AllNE.of o1'); revert o1'; intro _; (try dsimp only))
  k_with "my FinA" => ((unfold LCg.FinA); intro _ _ _ _ N'; (try simp only [List.nil_append, List.cons_append] at N'); revert N'; intro _ o1'; (replace o1' := AllNE.of o1'); revert o1'; intro _; (try dsimp only))
  k_with "my subscriptTail Name Name ref int" => (k_here; (with_reducible show wpAny _ _ (subscriptTail _ _ (Value.ref _) (Value.int _ _)) _ _ _); k_dflt (first | (refine' item_LI ?N ?m ?I ?k0 ?k1 ?kf ?_ ?hs ?hg; (case N => k_asm); (case m => k_mem); (case I => with_reducible assumption); (case k0 => omega); (case k1 => omega); (case kf => omega); (case hs => with_unfolding_all rfl); (case hg => intro _; with_unfolding_all rfl); k_whole) | (refine' item_TI ?N ?m ?I ?k0 ?k1 ?kf ?_ ?hs ?hg; (case N => k_asm); (case m => k_mem); (case I => with_reducible assumption); (case k0 => omega); (case k1 => omega); (case kf => omega); (case hs => with_unfolding_all rfl); (case hg => intro _; with_unfolding_all rfl); k_whole)); intro _)
  k_with "my eval Call" => (k_here; k_dflt (refine Call_ ?_))
  k_with "my eval ListComp" => (k_here; (with_reducible show wpAny _ _ (PySem.eval (PySem.Expr.ListComp _ [⟨_, _, [_], _⟩] _ _) _) _ _ _); refine Stop.mk ?_)
  k_with "my CompSrc" => (refine Stop.mk ?_)
  k_with "my CompSrcT" => (refine Stop.mk ?_)
  k_with "my pyIter ref" => (k_here; (with_reducible show wpAny _ _ (pyIter (Value.ref _)) (fun it s₂ => LoopAtV _ _ _ _ _ _ _ _ _ it s₂) _ _); refine Stop.mk ?_)
  k_with "my InvEndN" => (refine Stop.mk ?_)
  trivial
set_option maxRecDepth 100000 in
set_option maxHeartbeats 8000000 in
theorem rows_ok {w : World} {p : Program} {loose : List Str} {mean : ExcName → Option Value} {mg mb : Str → Option Value}
    {dp un : Nat} {gd : Option (List Code)} {cn : Str} {cs : Scope} {a : Addr} {ccd : Value} {cl : List (Str × Addr)} {outer : List Env} {A₀ : Around} {base h₀ : Heap} {L : Addr} {m : Str → Option Value} {s : Shared} {Q E : Value → Shared → Prop}
    {src : Addr} {x y : Int} {tx ty : Tok} {n : Nat} {rest : List (Addr × Obj)}
    (B : Below A₀ base outer h₀) (F : Fr h₀ L s.heap m) (X : (Mine.hd.heap_39 w.params).In h₀) (N : News h₀ L s.heap ((src, listOf #[.int x tx, .int y ty] n) :: rest)) (T : Top p loose mean mg mb h₀)
    (hk : cs.kind = .function) (hr : ∀ p ∈ rest, p.1 ≠ src) (hx : 0 ≤ x) (hy : 0 ≤ y) (hy2 : y < 2147483647) (hd : dp + 30 < recursionLimit) (hu : un + 400 < cLine)
    (ret : ∀ x' tx' y' ty' n' h' tk', Fr h₀ L h' m → News h₀ L h' ((src, listOf #[.int x' tx', .int y' ty'] n') :: rest) → 0 ≤ x' → 0 ≤ y' → y' < 2147483647 →
      Q (.bool true) { s with heap := h', toks := tk' }) :
    wpAny (model PySem.Challenge.rw_nt0538_01.row.prog w) (ktrTop dp un gd cn cs L a ccd cl outer) (call (.ref 148) [.ref src]) Q E s := by
  revert X; k_fill; intro X
  refine wpAny_call ?_
  k_dflt (walk_at "enter C")
  k_steps
  rename_i gg LL _ _ _ _ _ _ hL2 _ c7 c6 c5 _ _ _ c1 _ _ _ _ _ _ _ _ _ _ _ _ _ _ _ _ _ _ _ _ _ _ _ _ _ _ mn _ hm1 hm9 _ _ _ _ _ _ _ _ _ _ _ _ _ _ _ _ _ sc _ hs1 hs8 _ _ _ _ _ _ c2 _ _ tb tvs ts _ _ _ _ _ _ _ hTI hTl hTq _ _ _ _ hTn ot ovs os _ _ _ _ _ _ _ hOI hOl hOq _ _ _ _ hOn _ _ _ _ _ c3 _ _ c4 _ _ _ _ _ _ _ _ _ _ _ _
  unfold Stop
  (rename News _ _ _ _ => N0)
  obtain ⟨mn, rfl⟩ := Int.eq_ofNat_of_zero_le (show 0 ≤ mn by omega)
  rw [Int.toNat_natCast] at hTl hOl
  have hm : mn ≤ 9 := Int.ofNat_le.mp hm9
  have N9 : News gg LL _ ((src, _) :: (tb, tupOf tvs) :: (ot, tupOf ovs) :: (LL + 1 + 1 + 1 + 1 + 1 + 1 + 1, c7) :: (LL + 1 + 1 + 1 + 1 + 1 + 1, c6) :: (LL + 1 + 1 + 1 + 1 + 1, c5) :: (LL + 1 + 1 + 1 + 1, c4) :: (LL + 1 + 1 + 1, c3) :: (LL + 1 + 1, c2) :: (LL + 1, c1) :: rest) := cb_drop N0 (by kcf_all)
  clear N0
  have hsN : AllNE src [(tb, c1), (ot, c1), (LL + 1 + 1 + 1 + 1 + 1 + 1 + 1, c1), (LL + 1 + 1 + 1 + 1 + 1 + 1, c1), (LL + 1 + 1 + 1 + 1 + 1, c1), (LL + 1 + 1 + 1 + 1, c1), (LL + 1 + 1 + 1, c1), (LL + 1 + 1, c1), (LL + 1, c1)] := ⟨⟨by k_ne⟩, ⟨by k_ne⟩, ⟨by k_ne⟩, ⟨by k_ne⟩, ⟨by k_ne⟩, ⟨by k_ne⟩, ⟨by k_ne⟩, ⟨by k_ne⟩, ⟨by k_ne⟩, trivial⟩
  have h5N : AllNE (LL + 1 + 1 + 1 + 1 + 1) [(src, c1), (tb, c1), (ot, c1), (LL + 1 + 1 + 1 + 1 + 1 + 1 + 1, c1), (LL + 1 + 1 + 1 + 1 + 1 + 1, c1), (LL + 1 + 1 + 1 + 1, c1), (LL + 1 + 1 + 1, c1), (LL + 1 + 1, c1), (LL + 1, c1)] := ⟨⟨by k_ne⟩, ⟨by k_ne⟩, ⟨by k_ne⟩, ⟨off_ne (a := LL) (b := 7) (c := 5) rfl⟩, ⟨off_ne (a := LL) (b := 6) (c := 5) rfl⟩, ⟨off_ne (a := LL) (b := 4) (c := 5) rfl⟩, ⟨off_ne (a := LL) (b := 3) (c := 5) rfl⟩, ⟨off_ne (a := LL) (b := 2) (c := 5) rfl⟩, ⟨off_ne (a := LL) (b := 1) (c := 5) rfl⟩, trivial⟩
  have h6N : AllNE (LL + 1 + 1 + 1 + 1 + 1 + 1) [(src, c1), (tb, c1), (ot, c1), (LL + 1 + 1 + 1 + 1 + 1 + 1 + 1, c1), (LL + 1 + 1 + 1 + 1 + 1, c1), (LL + 1 + 1 + 1 + 1, c1), (LL + 1 + 1 + 1, c1), (LL + 1 + 1, c1), (LL + 1, c1)] := ⟨⟨by k_ne⟩, ⟨by k_ne⟩, ⟨by k_ne⟩, ⟨off_ne (a := LL) (b := 7) (c := 6) rfl⟩, ⟨off_ne (a := LL) (b := 5) (c := 6) rfl⟩, ⟨off_ne (a := LL) (b := 4) (c := 6) rfl⟩, ⟨off_ne (a := LL) (b := 3) (c := 6) rfl⟩, ⟨off_ne (a := LL) (b := 2) (c := 6) rfl⟩, ⟨off_ne (a := LL) (b := 1) (c := 6) rfl⟩, trivial⟩
  have h7N : AllNE (LL + 1 + 1 + 1 + 1 + 1 + 1 + 1) [(src, c1), (tb, c1), (ot, c1), (LL + 1 + 1 + 1 + 1 + 1 + 1, c1), (LL + 1 + 1 + 1 + 1 + 1, c1), (LL + 1 + 1 + 1 + 1, c1), (LL + 1 + 1 + 1, c1), (LL + 1 + 1, c1), (LL + 1, c1)] := ⟨⟨by k_ne⟩, ⟨by k_ne⟩, ⟨by k_ne⟩, ⟨off_ne (a := LL) (b := 6) (c := 7) rfl⟩, ⟨off_ne (a := LL) (b := 5) (c := 7) rfl⟩, ⟨off_ne (a := LL) (b := 4) (c := 7) rfl⟩, ⟨off_ne (a := LL) (b := 3) (c := 7) rfl⟩, ⟨off_ne (a := LL) (b := 2) (c := 7) rfl⟩, ⟨off_ne (a := LL) (b := 1) (c := 7) rfl⟩, trivial⟩
  have hr5 : ∀ p ∈ rest, p.1 ≠ LL + 1 + 1 + 1 + 1 + 1 := lt_ne1 hL2 (by omega)
  have hr6 : ∀ p ∈ rest, p.1 ≠ LL + 1 + 1 + 1 + 1 + 1 + 1 := lt_ne1 hL2 (by omega)
  have hr7 : ∀ p ∈ rest, p.1 ≠ LL + 1 + 1 + 1 + 1 + 1 + 1 + 1 := lt_ne1 hL2 (by omega)
  clear hL2 hTn hOn
  (repeat (rename (_ : Nat) < _ ∧ _ => hz; clear hz))
  rename_i z0 z1 kFG kB kX kT z6 z7 z8 kd1 kd2 kd3 z12 z13 z14 kd7 z16 z17 z18 z19 z20 z21 z22 z23 z24 z25 z26 z27 z28 z29 z30 z31 z32 z33 z34 z35 z36 z37 z38 z39 z40 z41 z42 z43 z44 z45 z46 z47 z48 z49 z50 z51 z52 z53 z54 z55 z56 kdA z58 z59 z60 z61 z62 z63 z64 z65 z66 z67 z68 z69 z70 z71 z72 z73 z74 z75 z76 kx1 kx2 kx3 z80 z81 z82 z83 z84 kdB z86 kdC z88 z89 z90 z91 z92 z93 z94 z95 kR kF
  (try clear z95); (try clear z94); (try clear z93); (try clear z92); (try clear z91); (try clear z90); (try clear z89); (try clear z88); (try clear z86); (try clear z84); (try clear z83); (try clear z82); (try clear z81); (try clear z80); (try clear z76); (try clear z75); (try clear z74); (try clear z73); (try clear z72); (try clear z71); (try clear z70); (try clear z69); (try clear z68); (try clear z67); (try clear z66); (try clear z65); (try clear z64); (try clear z63); (try clear z62); (try clear z61); (try clear z60); (try clear z59); (try clear z58); (try clear z56); (try clear z55); (try clear z54); (try clear z53); (try clear z52); (try clear z51); (try clear z50); (try clear z49); (try clear z48); (try clear z47); (try clear z46); (try clear z45); (try clear z44); (try clear z43); (try clear z42); (try clear z41); (try clear z40); (try clear z39); (try clear z38); (try clear z37); (try clear z36); (try clear z35); (try clear z34); (try clear z33); (try clear z32); (try clear z31); (try clear z30); (try clear z29); (try clear z28); (try clear z27); (try clear z26); (try clear z25); (try clear z24); (try clear z23); (try clear z22); (try clear z21); (try clear z20); (try clear z19); (try clear z18); (try clear z17); (try clear z16); (try clear z14); (try clear z13); (try clear z12); (try clear z8); (try clear z7); (try clear z6); (try clear z1); (try clear z0)
  k_dflt (refine LCg.CompSrc.range (by rfl) (by k_asm) N9 (by assumption) (by exact small_one (by kcf_bnd) (by kcf_bnd) (by kcf_bnd) (by kcf_bnd)) (rangeSize_nat _ _) (by rw [PySem.sizeLine_eq]; omega) ?_)
  intro g8
  refine comp_inv (DrawJ [] _ src (fun _ => True)) (DrawJ.zero (by assumption) (by assumption) (by assumption)) ?turn ?fin
  case turn =>
    rintro i ys nw hi ⟨x2, tx2, y2, ty2, n2, ns2, rfl, hx2, hy2, hyy2, hI2, hl2, hg2⟩ v I' oI' C' oC' D' m' h' tk' E' ⟨t9, rfl⟩ hC' hx' F' N' off2 ne'
    have off3 := AllNE3.of off2
    replace ne' := NE.mk ne'.1
    rw [q_t0] at hi
    simp only [List.nil_append] at off3 N'
    have hb := getD_ok (k := 0 + (i : Int)) hTq (by omega) (by omega)
    have hps := mul_bd hb.1 hb.2 hs1 hs8
    (try k_fold)
    k_steps
    exact draw_end (pre := []) (by k_asm) (by k_asm) off2 trivial hI2 hl2 hg2 (by assumption) (by assumption) (by assumption) trivial
  case fin =>
    rintro ys nw ⟨x2, tx2, y2, ty2, n2, ns2, rfl, hx2, hy2, hyy2, hI2, hl2, hg2⟩
    rw [q_t0] at hl2
    k_steps
    · exfalso; omega
    rename_i rw _ _ _ td dvs ds dn _ _ hDI hDl hDa hDn _ c5n _ _ _ _ _ _ _ _ _ _ _ _ _ _
    unfold Stop
    (rename IsRange _ _ _ _ _ _ _ _ => hR9)
    (rename News _ _ _ _ => N3)
    (rename Fr _ _ _ _ => F3)
    refine iter_rangeJ (fun _ m nx => MapBut [Str.ofString "at"] _ m ∧ nx = _) (by rfl) hR9 (by exact small_one (by kcf_bnd) (by kcf_bnd) (by kcf_bnd) (by kcf_bnd)) (rangeSize_nat _ _) F3 N3 ⟨MapBut.self, rfl⟩ ?lturn ?ldone
    case lturn =>
      rintro i t m₁ nx h tk own hi9 hoff ⟨⟨u, rfl⟩, rfl⟩ F' N'
      obtain ⟨k, hk9⟩ : ∃ k : Int, k = 0 + (i : Nat) * 1 := ⟨_, rfl⟩
      have hk0 : 0 ≤ k := k_lo hk9
      have hk1 : k < (mn : Int) := k_hi hk9 hi9
      rw [← hk9] at F'
      have hb := getD_ok (k := k) hTq (by omega) (by omega)
      have hps := mul_bd hb.1 hb.2 hs1 hs8
      have e1 : ds.getD k.toNat 0 = nr (ns2.getD k.toNat 0) (ts.getD k.toNat 0 * sc) := hDa k (by omega) (by omega)
      simp only [List.cons_append] at N'
      obtain ⟨rst, hrst⟩ : ∃ rst, rst = rest ++ own := ⟨_, rfl⟩
      rw [← hrst] at N'
      (try k_fold)
      k_steps
      unfold Stop
      subst hrst
      refine InvEndN.intro (by k_asm) (by k_asm) ⟨MapBut.of ?_, rfl⟩ rfl (by kcf_all) (by kcf_all)
      intro y hy
      have h1 : y ≠ Str.ofString "at" := by rintro rfl; exact absurd hy (by decide)
      simp only [h1, if_false, hy, Bool.false_eq_true]
    case ldone =>
      rintro m₁ nx h tk ⟨⟨u, rfl⟩, rfl⟩ F' N'
      clear N3 F3
      k_steps
      rename_i bk bvs bs _ _ _ hBI hBl hBa _ ag avs as _ _ _ hAI hAl hAa _ _ _ _ _ _ _ _ _ _ _ _ _ _ _ _ _ _ _ _ _ _
      unfold Stop
      have eB : ∀ n : Nat, n = mn → bs = (rangeKs 0 n).map (fun k => ds.getD k.toNat 0 * ts.getD k.toNat 0) := by
        rintro n rfl
        refine ints_ext (by rw [rng_len]; omega) (fun k h0 h1 => ?_)
        rw [getD_rng h0 (by omega)]
        exact hBa k h0 (by omega)
      k_dflt (refine LCg.CompSrc.range (by rfl) (by k_asm) (by k_asm) (by assumption) (by exact small_one (by kcf_bnd) (by kcf_bnd) (by kcf_bnd) (by kcf_bnd)) (rangeSize_nat _ _) (by rw [PySem.sizeLine_eq]; omega) ?_)
      intro g8
      refine kcf_range (fun k => ds.getD k.toNat 0 * ts.getD k.toNat 0) (fun k t I oI C oC D m₂ ys h tk E' h1 h2 hC hx F' N' off ne hM => ?_) (fun ys hys => ?_)
      · have hb := getD_ok (k := k) hTq h1 (by omega)
        replace ne := NE.mk ne.1
        (try k_fold)
        k_steps
      · have eB2 := eB _ q_t0
        k_steps
        · rename_i D1 _ _ _ _ _ _ _ _ _ _ _
          unfold Stop
          k_dflt (refine LCt.ListComp_T (F₀ := by k_asm) (by with_unfolding_all rfl) (by decide) (by rfl) (by decide) (by rfl) ?_)
          k_steps
          unfold Stop
          k_dflt (refine LCt.CompSrcT.range (by rfl) (by k_asm) (by k_asm) (by assumption) (by exact small_one (by kcf_bnd) (by kcf_bnd) (by kcf_bnd) (by kcf_bnd)) (rangeSize_nat _ _) (by rw [PySem.sizeLine_eq]; omega) ?_)
          intro g9
          refine comp_noneT ?tturn ?tfin
          case tturn =>
            rintro i hi v I' oI' C' oC' D' m' h' tk' E' ⟨t9, rfl⟩ hC' hx' F' N' off2 ne'
            have off3 := AllNE3.of off2
            replace ne' := NE.mk ne'.1
            have hb := getD_ok (k := 0 + (i : Int)) hTq (by omega) (by omega)
            have hb2 := getD_ok (k := 0 + (i : Int)) hOq (by omega) (by omega)
            have e1 := hAa (0 + (i : Int)) (by omega) (by omega)
            have e2 := hBa (0 + (i : Int)) (by omega) (by omega)
            dsimp only at e1 e2
            rw [← e2] at e1
            (try k_fold)
            k_steps
            exact ⟨rfl, LCg.CompEnd.intro (by k_asm) (by k_asm) _ (fun p hp => hp) off2 trivial rfl⟩
          case tfin =>
            k_steps
            exact q_bool (Q := Q) (by simp) (ret _ _ _ _ _ _ _ (by k_asm) (cb_drop (by k_asm) (by kcf_all)) hx2 hy2 hyy2)
        · exfalso
          (rename ¬ _ = _ => hne)
          refine hne (ints_ext (by omega) (fun k h0 h1 => ?_))
          (rename ∀ (k : Int), _ → _ → _ = nr (bs.getD k.toNat 0) (ts.getD k.toNat 0 * 1) => hat)
          have e1 := hat k h0 (by omega)
          have e2 := hBa k h0 (by omega)
          dsimp only at e1 e2
          rw [e1, e2]
          have hb := getD_ok (k := k) hTq h0 (by omega)
          rw [Int.mul_one]
          exact nr_mul hb.1
end
-- L0T
theorem words_17 : True := by
  k_with_none
  k_with "own k_all" => (assumption)
  k_with "my subscriptTail Name Constant ref int" => (k_here; (with_reducible show wpAny _ _ (subscriptTail _ _ (Value.ref _) (Value.int _ _)) _ _ _); (with_unfolding_all refine' item_litK ?k1 ?k2 ?k3 ?k4 ?_ ?k6; (case k1 => is_list); (case k2 => decide); (case k3 => decide); (case k4 => rfl); (case k6 => with_unfolding_all rfl); k_whole))
  k_with "my take asks" => ( (case k2 => k_asm); (case k1 => k_asm); (case k3 => k_asm); (case k5 => k_asm); (case kK => first | exact rfl | assumption); (case kr => k_all); (case kx => assumption); (case ky => assumption); (case ky2 => assumption); (case kt => first | decide | omega); (case kt2 => first | decide | omega); (case kd => ktr_room); (case ku => ktr_units); intro _ _ _ _ _ _ _ _ _ _ N' _ _ _ _ _; (try simp only [List.nil_append, List.cons_append] at N'); (try dsimp only); (try k_fold); (have N' := True.intro))
  k_with "my call ref" => (k_here; (with_reducible show wpAny _ _ (call (Value.ref 124) _) _ _ _); k_dflt (first | (refine' take_call (pre := []) ?k1 ?k2 ?k3 ?k4 ?k5 ?kK ?kr ?kx ?ky ?ky2 ?kt ?kt2 ?kd ?ku ?_; (case k4 => assumption); walk_at "take asks") | (refine' take_call (pre := [_]) ?k1 ?k2 ?k3 ?k4 ?k5 ?kK ?kr ?kx ?ky ?ky2 ?kt ?kt2 ?kd ?ku ?_; (case k4 => assumption); walk_at "take asks") | (refine' take_call (pre := [_, _]) ?k1 ?k2 ?k3 ?k4 ?k5 ?kK ?kr ?kx ?ky ?ky2 ?kt ?kt2 ?kd ?ku ?_; (case k4 => assumption); walk_at "take asks") | (refine' take_call (pre := [_, _, _]) ?k1 ?k2 ?k3 ?k4 ?k5 ?kK ?kr ?kx ?ky ?ky2 ?kt ?kt2 ?kd ?ku ?_; (case k4 => assumption); walk_at "take asks") | (refine' take_call (pre := [_, _, _, _]) ?k1 ?k2 ?k3 ?k4 ?k5 ?kK ?kr ?kx ?ky ?ky2 ?kt ?kt2 ?kd ?ku ?_; (case k4 => assumption); walk_at "take asks") | (refine' take_call (pre := [_, _, _, _, _]) ?k1 ?k2 ?k3 ?k4 ?k5 ?kK ?kr ?kx ?ky ?ky2 ?kt ?kt2 ?kd ?ku ?_; (case k4 => assumption); walk_at "take asks") | (refine' take_call (pre := [_, _, _, _, _, _]) ?k1 ?k2 ?k3 ?k4 ?k5 ?kK ?kr ?kx ?ky ?ky2 ?kt ?kt2 ?kd ?ku ?_; (case k4 => assumption); walk_at "take asks")))
  k_with "own k_all" => (first | assumption | exact lt_ne0 (by assumption) (by omega) | exact lt_ne1 (by assumption) (by omega) | exact lt_ne2 (by assumption) (by omega) | exact lt_ne3 (by assumption) (by omega))
  k_with "my enter C" => (refine' code_defC ?k1 ?k2 ?k3 ?k4 ?k5 ?kA ?kF ?kK ?k6 ?k7 ?k8 ?k9 ?kB ?kD ?_ ?c2 ?c3 ?c4; (case kA => exact rfl); (case kF => exact rfl); (case kK => assumption); (case k1 => k_asm); (case k2 => k_asm); (case k3 => k_asm); (case k4 => k_asm); (case k5 => k_asm); (case k6 => k_is); (case k7 => k_is); (case k8 => ktr_room); (case k9 => exact BindsTo.of_eq rfl); (case kB => exact rfl); (case kD => decide +kernel); (case c2 => exact rfl); (case c3 => exact rfl); (case c4 => exact rfl); k_whole; intro _ _ _ _ _ _ _ N' Y' B' _ _ l1; (have l2 := l1); (try k_lt l1); k_cells Y'; (try simp only [List.cons_append, List.nil_append] at N'); (try dsimp only); (try k_lift B'); (try k_fold); (have N' := True.intro); (have Y' := True.intro); (have B' := True.intro); (have l1 := True.intro); (have l2 := True.intro))
  k_with "my subscriptTail" => (k_here; (with_reducible show wpAny _ _ (subscriptTail (PySem.Expr.List _ _) _ (Value.ref _) (Value.int _ _)) _ _ _); (with_unfolding_all (first | (refine' item_menuB 1 65535 ?k1 ?k2 ?k3 ?k4 ?k5 ?kb ?_; (case k1 => is_list); (case k2 => l_ints); (case kb => decide); (case k3 => l_idx); (case k4 => l_idx); (case k5 => l_idx); k_whole) | (refine' item_menuB (-7) 130 ?k1 ?k2 ?k3 ?k4 ?k5 ?kb ?_; (case k1 => is_list); (case k2 => l_ints); (case kb => decide); (case k3 => l_idx); (case k4 => l_idx); (case k5 => l_idx); k_whole))); intro _ _ _ _)
  k_with "my eval ListComp" => (k_here; k_dflt (refine LCg.ListComp_U (F₀ := by k_asm) (by with_unfolding_all rfl) (by decide) (by rfl) (by decide) (by rfl) ?_))
  k_with "my CompSrc" => (k_here; k_dflt (refine LCg.CompSrc.range (by rfl) (by k_asm) (by k_asm) (by assumption) (by first | exact small_one (by kcf_bnd) (by kcf_bnd) (by kcf_bnd) (by kcf_bnd) | decide) (by first | exact rangeSize_nat _ _ | rfl) (by first | (rw [PySem.sizeLine_eq]; omega) | (rw [PySem.sizeLine_eq]; (simp only [List.size_toArray]); omega) | size_fits) ?_; intro _))
  k_with "my CompRest" => (fail "mine")
  k_with "my compareOp Eq ref ref" => (k_here; k_dflt (first | (refine' tup_eq ?k1 ?k2 ?k3 ?k4 ?k5 ?_; (case k1 => exact News.isTup (by k_asm) (by k_mem)); (case k2 => exact News.isTup (by k_asm) (by k_mem)); (case k3 => l_ints); (case k4 => l_ints); (case k5 => ktr_units); k_whole) | (refine' eq_intsK ?k1 ?k2 ?k3 ?k4 ?k5 ?_; (case k1 => is_list); (case k2 => l_ints); (case k3 => is_list); (case k4 => l_ints); (case k5 => ktr_units); k_whole)))
  k_with "my compareOp NotEq ref ref" => (k_here; k_dflt (first | (refine' tup_ne ?k1 ?k2 ?k3 ?k4 ?k5 ?_; (case k1 => exact News.isTup (by k_asm) (by k_mem)); (case k2 => exact News.isTup (by k_asm) (by k_mem)); (case k3 => l_ints); (case k4 => l_ints); (case k5 => ktr_units); k_whole) | (refine' ne_intsK ?k1 ?k2 ?k3 ?k4 ?k5 ?_; (case k1 => is_list); (case k2 => l_ints); (case k3 => is_list); (case k4 => l_ints); (case k5 => ktr_units); k_whole)))
  k_with "my call type:tuple" => (k_here; (with_reducible show wpAny _ _ (call (Value.type _) [Value.ref _]) _ _ _); k_dflt (refine' call_tuple_tup ?k1 ?_; (case k1 => exact News.isTup (by k_asm) (by k_mem)); k_whole))
  k_with "my call builtin:len" => (k_here; (with_reducible show wpAny _ _ (call (Value.builtin "len") [Value.ref _]) _ _ _); k_dflt (refine' len_tupI ?k1 ?k2 ?k3 ?_; (case k1 => exact News.isTup (by k_asm) (by k_mem)); (case k2 => l_ints); (case k3 => omega); k_whole))
  k_with "my q of" => (first | exact q0 (by assumption) | exact q1 (by assumption) | exact q2 (by assumption) | exact q3 (by assumption) | exact q4 (by assumption) | exact q5 (by assumption) | exact q6 (by assumption) | exact q7 (by assumption) | exact q8 (by assumption) | exact q9 (by assumption))
  k_with "my q lt" => (first | assumption | exact Nat.lt_succ_self _ | walk_at "q of")
  k_with "my q ne" => (first | (refine' Nat.lt_of_lt_of_le ?h q_u7; (case h => walk_at "q lt")) | (refine' Nat.lt_of_lt_of_le ?h q_u6; (case h => walk_at "q lt")) | (refine' Nat.lt_of_lt_of_le ?h q_u5; (case h => walk_at "q lt")) | (refine' Nat.lt_of_lt_of_le ?h q_u4; (case h => walk_at "q lt")) | (refine' Nat.lt_of_lt_of_le ?h q_u3; (case h => walk_at "q lt")) | (refine' Nat.lt_of_lt_of_le ?h q_u2; (case h => walk_at "q lt")) | (refine' Nat.lt_of_lt_of_le ?h q_u1; (case h => walk_at "q lt")) | walk_at "q lt")
  k_with "my q eq" => (first | (refine' Eq.trans (by assumption) ?q; (case q => walk_at "q eq")) | (refine' Eq.trans q_t0 ?q; (case q => walk_at "q eq")) | exact rfl)
  k_with "own omega" => (first | decide | with_reducible first | assumption | (refine' q_gt ?q; (case q => walk_at "q ne")) | (refine' Ne.symm (q_gt ?q); (case q => walk_at "q ne")) | exact q_room1 (by assumption) rfl | exact q_room (by assumption) rfl | exact q_room0 (by assumption) | exact q_i0 | exact q_nlo | exact q_nhi (by assumption) | exact q_cnt (by assumption) | exact q_pos (by assumption) | exact q_blo (by assumption) | exact q_bhi (by assumption) | exact q_ble (by assumption) rfl | exact q_vlt (by assumption) rfl | exact q_vle (by assumption) rfl | (refine' q_ll ?e ?h; (case e => walk_at "q eq"); (case h => walk_at "q eq")) | (refine' q_kl ?h ?e ?f; (case h => assumption); (case e => walk_at "q eq"); (case f => walk_at "q eq")) | (refine' q_ix ?h ?e ?f; (case h => assumption); (case e => walk_at "q eq"); (case f => walk_at "q eq")) | (refine' q_le ?e ?h ?b; (case e => walk_at "q eq"); (case h => first | assumption | decide); (case b => decide)) | (refine' q_lhi ?e ?h; (case e => walk_at "q eq"); (case h => assumption)) | exact q_u1 | exact q_u2 | exact q_u3 | exact q_u4 | exact q_u5 | exact q_u6 | exact q_u7 | walk_at "q of")
  k_with "my subscriptTail" => (k_here; (with_reducible show wpAny _ _ (subscriptTail (PySem.Expr.List _ _) _ (Value.ref _) (Value.int _ _)) _ _ _); (with_unfolding_all (first | (refine' item_menuB 1 8 ?k1 ?k2 ?k3 ?k4 ?k5 ?kb ?_; (case k1 => is_list); (case k2 => l_ints); (case kb => decide); (case k3 => l_idx); (case k4 => l_idx); (case k5 => l_idx); k_whole) | (refine' item_menuB 1 9 ?k1 ?k2 ?k3 ?k4 ?k5 ?kb ?_; (case k1 => is_list); (case k2 => l_ints); (case kb => decide); (case k3 => l_idx); (case k4 => l_idx); (case k5 => l_idx); k_whole) | (refine' item_menuB 1 65535 ?k1 ?k2 ?k3 ?k4 ?k5 ?kb ?_; (case k1 => is_list); (case k2 => l_ints); (case kb => decide); (case k3 => l_idx); (case k4 => l_idx); (case k5 => l_idx); k_whole) | (refine' item_menuB (-7) 130 ?k1 ?k2 ?k3 ?k4 ?k5 ?kb ?_; (case k1 => is_list); (case k2 => l_ints); (case kb => decide); (case k3 => l_idx); (case k4 => l_idx); (case k5 => l_idx); k_whole))); intro _ _ _ _)
  k_with "own k_ne" => ((refine neN ?_; (try dsimp only); first | exact NE.out (by with_reducible assumption) | exact (NE.out (by with_reducible assumption)).symm | exact AllNE.get (by with_reducible assumption) (by k_mem) | exact (AllNE.get (by with_reducible assumption) (by k_mem)).symm | exact (AllNE3.getI (by with_reducible assumption) (by k_mem)).symm | exact (AllNE3.getC (by with_reducible assumption) (by k_mem)).symm | exact (AllNE3.getD (by with_reducible assumption) (by k_mem)).symm | omega))
  k_with "my drops" => (first | exact Drops.here | (refine' Drops.there ?kq; (case kq => (walk_at "drops"))))
  k_with "my pool asks" => ((case k2 => k_asm); (case k1 => k_asm); (case k3 => k_asm); (case k5 => k_asm); (case kN => assumption); (case kD => (walk_at "drops")); (case kK => first | exact rfl | assumption); (case kr => k_all); (case kx => assumption); (case ky => assumption); (case ky2 => assumption); (case kt => first | decide | omega); (case kt2 => first | decide | omega); (case kd => ktr_room); (case ku => ktr_units))
  k_with "my call ref" => (k_here; (with_reducible show wpAny _ _ (call (Value.ref 124) _) _ _ _); k_dflt (refine' take_ok ?k1 ?k2 ?k3 (drops_news ?kN ?kD) ?k5 ?kK ?kr ?kx ?ky ?ky2 ?kt ?kt2 ?kd ?ku ?_; (walk_at "pool asks"); intro _ _ _ _ _ _ _ _ _ _ _ _ _ _ _ _; (try dsimp only); (try k_fold)))
  k_with "my call ref" => (k_here; (with_reducible show wpAny _ _ (call (Value.ref 131) _) _ _ _); k_dflt (refine' number_ok ?k1 ?k2 ?k3 (drops_news ?kN ?kD) ?k5 ?kK ?kr ?kx ?ky ?ky2 ?kt ?kt2 ?kd ?ku ?_; (walk_at "pool asks"); intro _ _ _ _ _ _ _ _ _ _ _ _ _ _ _ _; (try dsimp only); (try k_fold)))
  k_with "my call ref" => (k_here; (with_reducible show wpAny _ _ (call (Value.ref 136) _) _ _ _); k_dflt (refine' table_ok ?k1 ?k2 ?k3 (drops_news ?kN ?kD) ?k5 ?kK ?kr ?kx ?ky ?ky2 ?kt ?kd ?ku ?kt2 ?_; (walk_at "pool asks"); intro _ _ _ _ _ _ _ _ _ _ _ _ ne' hof' _ _ _ _ _ _; (replace ne' := NE.mk ne'); (replace hof' := AllNE.of hof'); revert ne' hof'; intro _ _; (try dsimp only); (try k_fold)))
  k_with "my list asks" => ((case k2 => k_asm); (case k1 => k_asm); (case k3 => k_asm); (case k4 => k_asm); (case k5 => k_asm); (case m1 => k_mem); (case m2 => k_mem); (case kK => first | exact rfl | assumption); (case i1 => l_ints); (case i2 => l_ints); (case l1 => omega); (case l2 => omega); (case kd => ktr_room); (case ku => ktr_units))
  k_with "my list says" => ((unfold RetList); intro _ _ _ _ _ _ _ _ _ _ _ hof'; (replace hof' := AllNE.of hof'); revert hof'; intro _; (try dsimp only); (try k_fold))
  k_with "my call ref" => (k_here; (with_reducible show wpAny _ _ (call (Value.ref 93) _) _ _ _); k_dflt (refine' quant_call ?k1 ?k2 ?k3 ?k4 ?m1 ?m2 ?k5 ?kK ?i1 ?i2 ?l1 ?l2 ?q1 ?s1 ?s2 ?kd ?ku ?_; (walk_at "list asks"); (case q1 => assumption); (case s1 => first | decide | omega); (case s2 => first | decide | omega); (walk_at "list says")))
  k_with "my call ref" => (k_here; (with_reducible show wpAny _ _ (call (Value.ref 98) _) _ _ _); k_dflt (refine' deq_call ?k1 ?k2 ?k3 ?k4 ?m1 ?m2 ?k5 ?kK ?i1 ?i2 ?l1 ?l2 ?q1 ?kd ?ku ?_; (walk_at "list asks"); (case q1 => assumption); (walk_at "list says")))
  k_with "my call ref" => (k_here; (with_reducible show wpAny _ _ (call (Value.ref 103) _) _ _ _); k_dflt (refine' req_call ?k1 ?k2 ?k3 ?k4 ?m1 ?m2 ?m3 ?k5 ?kK ?i1 ?i2 ?i3 ?l1 ?l2 ?l3 ?q1 ?q2 ?kd ?ku ?_; (walk_at "list asks"); (case m3 => k_mem); (case i3 => l_ints); (case l3 => omega); (case q1 => assumption); (case q2 => assumption); (walk_at "list says")))
  k_with "my call ref" => (k_here; (with_reducible show wpAny _ _ (call (Value.ref 143) _) _ _ _); k_dflt (refine' isnr_ok ?k1 ?k2 ?k3 ?k4 ?k5 ?kK ?ka ?kb ?ky ?kd ?ku ?_; (case k2 => k_asm); (case k1 => k_asm); (case k3 => k_asm); (case k4 => k_asm); (case k5 => k_asm); (case kK => first | exact rfl | assumption); (case ka => omega); (case kb => omega); (case ky => assumption); (case kd => ktr_room); (case ku => ktr_units); intro _ _ _ _; (try dsimp only); (try k_fold)))
  k_with "my FinE" => ((unfold LCg.FinE); intro _ _ _ _ N'; (try simp only [List.nil_append, List.cons_append] at N'); revert N'; intro _ o1'; (replace o1' := AllNE.of o1'); revert o1'; intro _; (try dsimp only))
  k_with "my FinA" => ((unfold LCg.FinA); intro _ _ _ _ N'; (try simp only [List.nil_append, List.cons_append] at N'); revert N'; intro _ o1'; (replace o1' := AllNE.of o1'); revert o1'; intro _; (try dsimp only))
  k_with "my subscriptTail Name Name ref int" => (k_here; (with_reducible show wpAny _ _ (subscriptTail _ _ (Value.ref _) (Value.int _ _)) _ _ _); k_dflt (first | (refine' item_LI ?N ?m ?I ?k0 ?k1 ?kf ?_ ?hs ?hg; (case N => k_asm); (case m => k_mem); (case I => with_reducible assumption); (case k0 => omega); (case k1 => omega); (case kf => omega); (case hs => with_unfolding_all rfl); (case hg => intro _; with_unfolding_all rfl); k_whole) | (refine' item_TI ?N ?m ?I ?k0 ?k1 ?kf ?_ ?hs ?hg; (case N => k_asm); (case m => k_mem); (case I => with_reducible assumption); (case k0 => omega); (case k1 => omega); (case kf => omega); (case hs => with_unfolding_all rfl); (case hg => intro _; with_unfolding_all rfl); k_whole)); intro _)
  k_with "my eval Call" => (k_here; k_dflt (refine Call_ ?_))
  trivial
theorem pull1 {h₀ h : Heap} {L : Addr} {l : List (Addr × Obj)} {p1 : Addr × Obj} (N : News h₀ L h l) (h1 : p1 ∈ l) : News h₀ L h (p1 :: l) := fun p hp => by
  rcases List.mem_cons.mp hp with rfl | hp
  · exact N _ h1
  · exact N _ hp
section
variable {w : World} {p : Program} {loose : List Str} {mean : ExcName → Option Value} {mg mb : Str → Option Value}
    {dp un : Nat} {gd : Option (List Code)} {cn : Str} {cs : Scope} {a : Addr} {ccd : Value} {cl : List (Str × Addr)} {outer : List Env} {A₀ : Around} {base h₀ : Heap} {L : Addr} {m : Str → Option Value} {s : Shared} {Q E : Value → Shared → Prop}
    {qt bt : Addr} {qvs bvs : List Value} {qs bs : List Int} {q most : Int} {tq tm : Tok} {news : List (Addr × Obj)}
theorem sctab_call (B : Below A₀ base outer h₀) (F : Fr h₀ L s.heap m) (X : (Mine.hd.heap_39 w.params).In h₀) (N : News h₀ L s.heap news) (m1 : (qt, tupOf qvs) ∈ news) (T : Top p loose mean mg mb h₀)
    (hk : cs.kind = .function) (hI : IntsAre qvs qs) (hl : qs.length ≤ 9) (hd : dp + 16 < recursionLimit) (hu : un + 200 < cLine)
    (ret : ∀ r vs ns h' tk', Fr h₀ L h' m → News h₀ L h' ((r, tupOf vs) :: news) → IntsAre vs ns → ns = qs.map (scv (qsc q) most) → ns.length = qs.length → LCg.Off1 r news → Q (.ref r) { s with heap := h', toks := tk' }) :
    wpAny (model PySem.Challenge.rw_nt0538_01.row.prog w) (ktrTop dp un gd cn cs L a ccd cl outer) (call (.ref 65) [.ref qt, .int q tq, .int most tm]) Q E s :=
  sctab_ok B F X (pull1 N m1) T hk hI hl hd hu (fun r vs h' tk' F' N' hI' hof => ret r vs _ h' tk' F' (cb_drop N' (by kcf_all)) hI' rfl (List.length_map _) hof)
theorem prec_call (B : Below A₀ base outer h₀) (F : Fr h₀ L s.heap m) (X : (Mine.hd.heap_39 w.params).In h₀) (N : News h₀ L s.heap news) (m1 : (qt, tupOf qvs) ∈ news) (T : Top p loose mean mg mb h₀)
    (hk : cs.kind = .function) (hI : IntsAre qvs qs) (hd : dp + 8 < recursionLimit) (hu : un + 100 < cLine)
    (ret : ∀ v t h' tk', Fr h₀ L h' m → News h₀ L h' news → v = (if qs.filter (fun v => decide (255 < v)) = [] then 0 else 1) → Q (.int v t) { s with heap := h', toks := tk' }) :
    wpAny (model PySem.Challenge.rw_nt0538_01.row.prog w) (ktrTop dp un gd cn cs L a ccd cl outer) (call (.ref 79) [.ref qt]) Q E s := by
  refine prec_ok B F X (pull1 N m1) T hk hI hd hu (fun t h' tk' F' N' hx => ret _ t h' tk' F' (cb_drop N' (by kcf_all)) ?_) (fun t h' tk' F' N' hx => ret _ t h' tk' F' (cb_drop N' (by kcf_all)) ?_)
  · obtain ⟨v, hv, h⟩ := hx
    rw [if_neg]
    intro e
    have := List.filter_eq_nil_iff.mp e v hv
    simp only [decide_eq_true_eq] at this
    exact this h
  · rw [if_pos]
    refine List.filter_eq_nil_iff.mpr (fun v hv => ?_)
    simp only [decide_eq_true_eq]
    exact hx v hv
end
section
variable {prog : Program} {w : World} {A : Around} {E : Value → Shared → Prop} {s : Shared} {h₀ : Heap} {L : Addr} {m : Str → Option Value} {env : Env}
def TupSrcT (prog : Program) (w : World) (A : Around) (h₀ : Heap) (L : Addr) (m : Str → Option Value) (env : Env) (ct elt : PySem.Expr) (x : Str) (scope : Scope) (cl : List (Str × Addr)) (Q : Value → Shared → Prop) (xv : Value) (s₁ : Shared) : Prop :=
  ∃ ax its news, xv = .ref ax ∧ A.handled = none ∧ Fr h₀ L s₁.heap m ∧ News h₀ L s₁.heap news ∧ TupIn ax its news ∧ its.size ≤ sizeLine ∧
      ∀ g, LCt.CompRestT prog w A h₀ L m env ct elt x scope cl { s₁ with heap := g } (TupIn ax its) (fun i v => its[i]? = some v) (LCg.FinE h₀ L m { s₁ with heap := g } Q) its.size 0 [] news
theorem listComp_tupT {ct elt iter : PySem.Expr} {x : Str} {px : Pos} {scope : Scope} {cl : List (Str × Addr)} {pos : Pos} {Q : Value → Shared → Prop} (_F₀ : Fr h₀ L s.heap m)
    (hclos : closureFor scope env = pure cl) (hcell : ∀ y ∈ scope.names, y.2 ≠ .cell) (hkind : scope.kind = .function)
    (hnames : ∀ y ∈ scope.names, y.2 = .local → scope.names.lookup y.1 = some .local) (hx : scope.names.lookup x = some .local)
    (h : wpAny (model prog w) A (eval iter env) (TupSrcT prog w A h₀ L m env ct elt x scope cl Q) E s)
    (hs : ∀ x, foldedSetIterable iter env x = pure x := by intro _; rfl) :
    wpAny (model prog w) A (eval (.ListComp elt [⟨.Name x px, iter, [ct], 0⟩] scope pos) env) Q E s := by
  rw [eval_ListComp]
  refine wpAny_comprehension_free (use := none) rfl hs hclos hkind hnames (wpAny_mono h (fun xv s₁ h₁ => ?_) fun _ _ e => e)
  obtain ⟨ax, its, news, rfl, hh, F, N, S, hsz, R⟩ := h₁
  have hl := S.at N
  have hlt : ax < s₁.heap.objs.size := let ⟨_, e, _⟩ := hl; Heap.lt_size e
  refine wpAny_pyIter_tuple hl ?_
  have up : ∀ b o, s₁.heap.get? b = some o → (s₁.heap.push { cls := .type "tuple_iterator", data := .fields #[.ref ax, .int 0 0] }).get? b = some o := fun b o e => Heap.get?_push_of_some _ e
  refine LCt.block_T (Walks.tuple hh s₁.heap.objs.size ax (Nat.ne_of_lt hlt) its) hsz (fun i h st => let ⟨o, e, _⟩ := st.1; ⟨o, e⟩) ?_ hcell hkind hx ⟨⟨_, Heap.get?_push_size _ rfl, rfl, rfl⟩, hl.push _⟩ ?_
    (F.keeps up) (N.grown up) (Nat.ne_of_lt F.ns.lt) (next_is_new F) (fun p hp => Nat.ne_of_lt (Heap.lt_size (N p hp).1)) S (R _) ?_
  · intro i h h' o nw st e e' _ N' S'
    refine ⟨?_, S'.at N'⟩
    obtain ⟨o', q, r⟩ := st.1
    rw [e] at q
    cases q
    exact ⟨o, e', r⟩
  · intro b hb
    show b < (s₁.heap.push _).objs.size
    rw [Heap.size_push]
    simp only [List.mem_cons, List.not_mem_nil, or_false] at hb
    rcases hb with rfl | rfl
    · exact Nat.lt_succ_self _
    · exact Nat.lt_succ_of_lt hlt
  · intro D C h tk m' ys news' F' N' o1 hn hC₀ hD₀ hCL hDL hCD offC fin
    refine ⟨m', hn, fun h'' hs'' => fin D h'' tk (F'.change hs'' hCL hC₀) (fun p hp => ?_) o1⟩
    refine ⟨hs''.extBut _ _ ?_ (N' p hp).1, (N' p hp).2⟩
    rcases List.mem_cons.mp hp with rfl | hp
    · exact Ne.symm hCD
    · exact offC p hp
def FiltT (prog : Program) (w : World) (A : Around) (h₀ : Heap) (L : Addr) (m : Str → Option Value) (ee : Sem Value) (E' : Value → Shared → Prop) (s₁ : Shared) (I : Addr) (oI : Obj) (C : Addr) (oC : Obj) (D : Addr) (oD : Obj) (S : List (Addr × Obj) → Prop) (news : List (Addr × Obj)) (k : Int) (pk : Bool) (ok : Bool) (s₂ : Shared) : Prop :=
  ok = pk ∧ (if ok = true then wpAny (model prog w) A ee (LCg.CompEnd h₀ L m s₁ I oI C oC D oD S (fun y nw' => (∃ t, y = .int k t) ∧ nw' = news)) E' s₂
    else LCg.CompEnd h₀ L m s₁ I oI C oC D oD S (fun _ nw' => nw' = news) Value.none s₂)
theorem comp_filt {ct elt : PySem.Expr} {x : Str} {scope : Scope} {cl : List (Str × Addr)} {S : List (Addr × Obj) → Prop} {vs : List Value} {ns : List Int} (p : Int → Bool)
    {Fin : List Value → List (Addr × Obj) → Prop} {n : Nat} {news : List (Addr × Obj)} (hI : IntsAre vs ns) (hn : n = ns.length)
    (turn : ∀ (i : Nat) (k : Int) (t : Tok), ns[i]? = some k → ∀ ys I oI C oC D m₂ h tk (E' : Value → Shared → Prop), LCg.NsObj oC m₂ → m₂ x = some (.int k t) → Fr h₀ L h m → News h₀ L h ((I, oI) :: (C, oC) :: (D, LCg.lst ys) :: news) → LCg.Off3 I C D news → ((@Ne Nat I C) ∧ (@Ne Nat I D) ∧ (@Ne Nat C D)) →
      wpAny (model prog w) A (isTrue ct (compEnvC scope cl C env) (eval ct (compEnvC scope cl C env))) (FiltT prog w A h₀ L m (eval elt (compEnvC scope cl C env)) E' { s with heap := h, toks := tk } I oI C oC D (LCg.lst ys) S news k (p k)) E' { s with heap := h, toks := tk })
    (fin : ∀ ys, IntsAre ys (ns.filter p) → Fin ys news) : LCt.CompRestT prog w A h₀ L m env ct elt x scope cl s S (fun i v => vs.toArray[i]? = some v) Fin n 0 [] news := by
  subst hn
  have key : ∀ (j i : Nat) (ys : List Value), i + j = ns.length → IntsAre ys ((ns.take i).filter p) → LCt.CompRestT prog w A h₀ L m env ct elt x scope cl s S (fun i v => vs.toArray[i]? = some v) Fin j i ys news := by
    intro j
    induction j with
    | zero =>
      intro i ys hi hy
      obtain rfl : i = ns.length := by omega
      rw [List.take_length] at hy
      exact LCt.CompRestT.zero (fin ys hy)
    | succ j ih =>
      intro i ys hi hy
      refine LCt.CompRestT.succ ?_
      intro v I oI C oC D m₂ h tk E' hv hC hx F N off ne
      obtain ⟨k, t, rfl, hk⟩ := hI.at i v (by simpa using hv)
      have et : (ns.take (i + 1)).filter p = (ns.take i).filter p ++ (if p k then [k] else []) := by
        rw [List.take_add_one, hk, List.filter_append]
        congr 1
        cases hp : p k <;> simp [hp]
      refine wpAny_mono (turn i k t hk ys I oI C oC D m₂ h tk E' hC hx F N off ne) (fun ok s₂ hq => ?_) fun _ _ e => e
      obtain ⟨rfl, hq⟩ := hq
      cases hp : p k with
      | true =>
        rw [hp] at hq
        simp only [if_true] at hq ⊢
        refine wpAny_mono hq (fun y s₃ hz => ?_) fun _ _ e => e
        obtain ⟨h', tk', nw', e, F', N', off', hS, ⟨t2, rfl⟩, rfl⟩ := hz
        refine ⟨h', tk', nw', e, F', N', off', hS, ih (i + 1) _ (by omega) ?_⟩
        rw [et, hp]
        exact IntsAre.append hy (.cons _ _ .nil)
      | false =>
        rw [hp] at hq
        simp only [Bool.false_eq_true, if_false] at hq ⊢
        obtain ⟨h', tk', nw', e, F', N', off', hS, rfl⟩ := hq
        refine ⟨h', tk', nw', e, F', N', off', hS, ih (i + 1) _ (by omega) ?_⟩
        rw [et, hp]
        simpa using hy
  exact key _ 0 [] (by omega) .nil
end
section
variable {prog : Program} {w : World} {A : Around} {E : Value → Shared → Prop} {s : Shared} {h₀ : Heap} {L : Addr} {m : Str → Option Value} {news : List (Addr × Obj)} {a b : Int} {t u : Tok}
theorem max_op {Q : Value → Shared → Prop} (hh : A.handled = none) (F : Fr h₀ L s.heap m) (N : News h₀ L s.heap news)
    (h : ∀ v t' h' tk, v = max a b → Fr h₀ L h' m → News h₀ L h' news → Q (.int v t') { s with heap := h', toks := tk }) :
    wpAny (model prog w) A (call (.builtin "max") [.int a t, .int b u]) Q E s :=
  max_two_N hh F N (fun h' tk F' N' => h _ _ h' tk (by split <;> omega) F' N')
theorem min_op {Q : Value → Shared → Prop} (hh : A.handled = none) (F : Fr h₀ L s.heap m) (N : News h₀ L s.heap news)
    (h : ∀ v t' h' tk, v = min a b → Fr h₀ L h' m → News h₀ L h' news → Q (.int v t') { s with heap := h', toks := tk }) :
    wpAny (model prog w) A (call (.builtin "min") [.int a t, .int b u]) Q E s :=
  min_two_N hh F N (fun h' tk F' N' => h _ _ h' tk (by split <;> omega) F' N')
theorem gen_store {env : Env} {x : Str} {Q : Unit → Shared → Prop} (h : ∀ v t', v = a → wpAny (model prog w) A (storeName env x (.int v t')) Q E s) :
    wpAny (model prog w) A (storeName env x (.int a t)) Q E s := h a t rfl
end
theorem hund1 {q v1 v2 hv : Int} (h1 : v1 = max 1 q) (h2 : v2 = min 100 v1) (c : 50 ≤ v2) (e : hv = 200 - v2 - v2) : hv = qsc q := by
  unfold qsc
  rw [show max 1 (min 100 q) = v2 by omega, if_neg (by omega)]
  omega
theorem hund2 {q v1 v2 hv : Int} (h1 : v1 = max 1 q) (h2 : v2 = min 100 v1) (c : ¬ 50 ≤ v2) (e : hv = (5000 : Int).fdiv v2) : hv = qsc q := by
  unfold qsc
  rw [show max 1 (min 100 q) = v2 by omega, if_pos (by omega)]
  exact e
theorem getD_map {f : Int → Int} {ns : List Int} {k : Int} (h0 : 0 ≤ k) (h1 : k < ns.length) : (ns.map f).getD k.toNat 0 = f (ns.getD k.toNat 0) := by
  have h2 : k.toNat < ns.length := by omega
  simp [List.getD_eq_getElem?_getD, h2]
theorem qsc_mono {q k k' : Int} (hk : k = max 1 (min 100 q)) (h : k ≤ k') : qsc k' ≤ qsc q := by
  unfold qsc
  rw [← hk]
  have h1 : 1 ≤ k := by omega
  have h2 : k ≤ 100 := by omega
  obtain ⟨j, hj⟩ : ∃ j, j = max 1 (min 100 k') := ⟨_, rfl⟩
  rw [← hj]
  have h3 : k ≤ j := by omega
  have h4 : j ≤ 100 := by omega
  clear hj hk h
  by_cases c1 : k < 50
  · rw [if_pos c1, Int.fdiv_eq_ediv_of_nonneg (5000 : Int) (show 0 ≤ k by omega)]
    by_cases c2 : j < 50
    · rw [if_pos c2, Int.fdiv_eq_ediv_of_nonneg (5000 : Int) (show 0 ≤ j by omega)]
      refine Int.le_ediv_of_mul_le (by omega) ?_
      have e1 : 5000 / j * k ≤ 5000 / j * j := Int.mul_le_mul_of_nonneg_left h3 (Int.ediv_nonneg (by decide) (by omega))
      have e2 := Int.ediv_mul_le 5000 (show j ≠ 0 by omega)
      omega
    · rw [if_neg c2]
      refine Int.le_ediv_of_mul_le (by omega) ?_
      have e1 : (200 - 2 * j) * k ≤ 100 * k := Int.mul_le_mul_of_nonneg_right (by omega) (by omega)
      omega
  · rw [if_neg c1, if_neg (by omega)]
    omega
theorem scv_mono {h h' most x : Int} (hx : 0 ≤ x) (h1 : h' ≤ h) : scv h' most x ≤ scv h most x := by
  unfold scv
  rw [Int.fdiv_eq_ediv_of_nonneg _ (by decide), Int.fdiv_eq_ediv_of_nonneg _ (by decide)]
  have e := Int.mul_le_mul_of_nonneg_left h1 hx
  omega
theorem scv_50 {x : Int} (h1 : 1 ≤ x) (h2 : x ≤ 65535) : scv (qsc 50) 65535 x = x := by
  have e : qsc 50 = 100 := by decide
  rw [e]
  unfold scv
  rw [Int.fdiv_eq_ediv_of_nonneg _ (by decide)]
  omega
theorem scv_100 {most x : Int} (h1 : 1 ≤ most) : scv (qsc 100) most x = 1 := by
  have e : qsc 100 = 0 := by decide
  rw [e]
  unfold scv
  rw [Int.mul_zero]
  have : (0 + 50 : Int).fdiv 100 = 0 := by decide
  rw [this]
  omega
theorem map_50 {ns : List Int} (h : ∀ v ∈ ns, 1 ≤ v ∧ v ≤ 65535) : ns.map (scv (qsc 50) 65535) = ns := by
  have : ns.map (scv (qsc 50) 65535) = ns.map id := List.map_congr_left (fun v hv => scv_50 (h v hv).1 (h v hv).2)
  rw [this, List.map_id]
theorem map_100 {ns : List Int} {most : Int} (h1 : 1 ≤ most) (hl : ns.length = 4) : ns.map (scv (qsc 100) most) = [1, 1, 1, 1] := by
  match ns, hl with
  | [a, b, c, d], _ => simp only [List.map_cons, List.map_nil, scv_100 h1]
theorem told_at {ns ts : List Int} {q most hv : Int} (h1 : ns = ts.map (scv (qsc q) most)) (h2 : hv = qsc q) : ∀ k : Int, 0 ≤ k → k < ts.length → ns.getD k.toNat 0 = max 1 (min most ((ts.getD k.toNat 0 * hv + 50).fdiv 100)) := by
  intro k h0 hl
  subst h1 h2
  rw [getD_map h0 hl]
  rfl
theorem hund_bd {q hv : Int} (h : hv = qsc q) : 0 ≤ hv ∧ hv ≤ 5000 := by rw [h]; exact qsc_bd q
theorem mul_bd2 {a b : Int} (h1 : 1 ≤ a) (h2 : a ≤ 65535) (h3 : 0 ≤ b) (h4 : b ≤ 5000) : 0 ≤ a * b ∧ a * b ≤ 327675000 := by
  have e : 0 ≤ a * b := Int.mul_nonneg (by omega) h3
  have e2 : a * b ≤ 65535 * 5000 := Int.mul_le_mul h2 h4 (by omega) (by decide)
  omega
theorem better_le {ns nb ts : List Int} {q q' most : Int} (h1 : ns = ts.map (scv (qsc q) most)) (h2 : nb = ts.map (scv (qsc q') most)) (hq : qsc q' ≤ qsc q) (ht : ∀ v ∈ ts, 1 ≤ v ∧ v ≤ 65535) :
    ∀ k : Int, 0 ≤ k → k < ts.length → nb.getD k.toNat 0 ≤ ns.getD k.toNat 0 := by
  intro k h0 hl
  subst h1 h2
  rw [getD_map h0 hl, getD_map h0 hl]
  have := getD_ok ht h0 hl
  exact scv_mono (by omega) hq
theorem better_mono {q v1 v2 d : Int} (h1 : v1 = max 1 q) (h2 : v2 = min 100 v1) (hd : 0 ≤ d) : qsc (v2 + 1 + d) ≤ qsc q :=
  qsc_mono (k := v2) (by omega) (by omega)
theorem TupSrcT.intro {prog : Program} {w : World} {A : Around} {h₀ : Heap} {L : Addr} {m : Str → Option Value} {env : Env} {ct elt : PySem.Expr} {x : Str} {scope : Scope} {cl : List (Str × Addr)} {Q : Value → Shared → Prop} {s₁ : Shared} {ax : Addr} {vs : List Value} {ns : List Int} {news : List (Addr × Obj)}
    (hI : IntsAre vs ns) (hh : A.handled = none) (F : Fr h₀ L s₁.heap m) (N : News h₀ L s₁.heap news) (hm : (ax, tupOf vs) ∈ news) (hl : ns.length ≤ 9)
    (h : ∀ g, LCt.CompRestT prog w A h₀ L m env ct elt x scope cl { s₁ with heap := g } (TupIn ax vs.toArray) (fun i v => vs.toArray[i]? = some v) (LCg.FinE h₀ L m { s₁ with heap := g } Q) vs.length 0 [] news) :
    TupSrcT prog w A h₀ L m env ct elt x scope cl Q (.ref ax) s₁ :=
  ⟨ax, vs.toArray, news, rfl, hh, F, N, ⟨_, hm, rfl, _, rfl⟩, by rw [sizeLine_eq, List.size_toArray, hI.length]; omega, h⟩
def HundQ (h₀ : Heap) (L : Addr) (m : Str → Option Value) (news : List (Addr × Obj)) (s₁ : Shared) (q : Int) (v : Value) (s₂ : Shared) : Prop :=
  ∃ hv t h' tk', v = .int hv t ∧ s₂ = { s₁ with heap := h', toks := tk' } ∧ hv = qsc q ∧ Fr h₀ L h' m ∧ News h₀ L h' news
theorem hund_join {M : Model} {A : Around} {E : Value → Shared → Prop} {s : Shared} {h₀ : Heap} {L : Addr} {m : Str → Option Value} {news : List (Addr × Obj)} {q v1 : Int} {c : Sem Value} {Q : Value → Shared → Prop}
    (_F : Fr h₀ L s.heap m) (_N : News h₀ L s.heap news) (_h : v1 = max 1 q) (a : wpAny M A c (HundQ h₀ L m news s q) E s)
    (b : ∀ hv t h' tk', hv = qsc q → Fr h₀ L h' m → News h₀ L h' news → Q (.int hv t) { s with heap := h', toks := tk' }) : wpAny M A c Q E s := by
  refine wpAny_mono a (fun v s₂ hq => ?_) fun _ _ e => e
  obtain ⟨hv, t, h', tk', rfl, rfl, e, F, N⟩ := hq
  exact b hv t h' tk' e F N
-- L1
section
theorem words_18 : True := by
  k_with_none
  k_with "own k_all" => (assumption)
  k_with "my subscriptTail Name Constant ref int" => (k_here; (with_reducible show wpAny _ _ (subscriptTail _ _ (Value.ref _) (Value.int _ _)) _ _ _); (with_unfolding_all refine' item_litK ?k1 ?k2 ?k3 ?k4 ?_ ?k6; (case k1 => is_list); (case k2 => decide); (case k3 => decide); (case k4 => rfl); (case k6 => with_unfolding_all rfl); k_whole))
  k_with "my take asks" => ( (case k2 => k_asm); (case k1 => k_asm); (case k3 => k_asm); (case k5 => k_asm); (case kK => first | exact rfl | assumption); (case kr => k_all); (case kx => assumption); (case ky => assumption); (case ky2 => assumption); (case kt => first | decide | omega); (case kt2 => first | decide | omega); (case kd => ktr_room); (case ku => ktr_units); intro _ _ _ _ _ _ _ _ _ _ N' _ _ _ _ _; (try simp only [List.nil_append, List.cons_append] at N'); (try dsimp only); (try k_fold); (have N' := True.intro))
  k_with "my call ref" => (k_here; (with_reducible show wpAny _ _ (call (Value.ref 124) _) _ _ _); k_dflt (first | (refine' take_call (pre := []) ?k1 ?k2 ?k3 ?k4 ?k5 ?kK ?kr ?kx ?ky ?ky2 ?kt ?kt2 ?kd ?ku ?_; (case k4 => assumption); walk_at "take asks") | (refine' take_call (pre := [_]) ?k1 ?k2 ?k3 ?k4 ?k5 ?kK ?kr ?kx ?ky ?ky2 ?kt ?kt2 ?kd ?ku ?_; (case k4 => assumption); walk_at "take asks") | (refine' take_call (pre := [_, _]) ?k1 ?k2 ?k3 ?k4 ?k5 ?kK ?kr ?kx ?ky ?ky2 ?kt ?kt2 ?kd ?ku ?_; (case k4 => assumption); walk_at "take asks") | (refine' take_call (pre := [_, _, _]) ?k1 ?k2 ?k3 ?k4 ?k5 ?kK ?kr ?kx ?ky ?ky2 ?kt ?kt2 ?kd ?ku ?_; (case k4 => assumption); walk_at "take asks") | (refine' take_call (pre := [_, _, _, _]) ?k1 ?k2 ?k3 ?k4 ?k5 ?kK ?kr ?kx ?ky ?ky2 ?kt ?kt2 ?kd ?ku ?_; (case k4 => assumption); walk_at "take asks") | (refine' take_call (pre := [_, _, _, _, _]) ?k1 ?k2 ?k3 ?k4 ?k5 ?kK ?kr ?kx ?ky ?ky2 ?kt ?kt2 ?kd ?ku ?_; (case k4 => assumption); walk_at "take asks") | (refine' take_call (pre := [_, _, _, _, _, _]) ?k1 ?k2 ?k3 ?k4 ?k5 ?kK ?kr ?kx ?ky ?ky2 ?kt ?kt2 ?kd ?ku ?_; (case k4 => assumption); walk_at "take asks")))
  k_with "own k_all" => (first | assumption | exact lt_ne0 (by assumption) (by omega) | exact lt_ne1 (by assumption) (by omega) | exact lt_ne2 (by assumption) (by omega) | exact lt_ne3 (by assumption) (by omega))
  k_with "my enter C" => (refine' code_defC ?k1 ?k2 ?k3 ?k4 ?k5 ?kA ?kF ?kK ?k6 ?k7 ?k8 ?k9 ?kB ?kD ?_ ?c2 ?c3 ?c4; (case kA => exact rfl); (case kF => exact rfl); (case kK => assumption); (case k1 => k_asm); (case k2 => k_asm); (case k3 => k_asm); (case k4 => k_asm); (case k5 => k_asm); (case k6 => k_is); (case k7 => k_is); (case k8 => ktr_room); (case k9 => exact BindsTo.of_eq rfl); (case kB => exact rfl); (case kD => decide +kernel); (case c2 => exact rfl); (case c3 => exact rfl); (case c4 => exact rfl); k_whole; intro _ _ _ _ _ _ _ N' Y' B' _ _ l1; (have l2 := l1); (try k_lt l1); k_cells Y'; (try simp only [List.cons_append, List.nil_append] at N'); (try dsimp only); (try k_lift B'); (try k_fold); (have N' := True.intro); (have Y' := True.intro); (have B' := True.intro); (have l1 := True.intro); (have l2 := True.intro))
  k_with "my subscriptTail" => (k_here; (with_reducible show wpAny _ _ (subscriptTail (PySem.Expr.List _ _) _ (Value.ref _) (Value.int _ _)) _ _ _); (with_unfolding_all (first | (refine' item_menuB 1 65535 ?k1 ?k2 ?k3 ?k4 ?k5 ?kb ?_; (case k1 => is_list); (case k2 => l_ints); (case kb => decide); (case k3 => l_idx); (case k4 => l_idx); (case k5 => l_idx); k_whole) | (refine' item_menuB (-7) 130 ?k1 ?k2 ?k3 ?k4 ?k5 ?kb ?_; (case k1 => is_list); (case k2 => l_ints); (case kb => decide); (case k3 => l_idx); (case k4 => l_idx); (case k5 => l_idx); k_whole))); intro _ _ _ _)
  k_with "my eval ListComp" => (k_here; k_dflt (refine LCg.ListComp_U (F₀ := by k_asm) (by with_unfolding_all rfl) (by decide) (by rfl) (by decide) (by rfl) ?_))
  k_with "my CompSrc" => (k_here; k_dflt (refine LCg.CompSrc.range (by rfl) (by k_asm) (by k_asm) (by assumption) (by first | exact small_one (by kcf_bnd) (by kcf_bnd) (by kcf_bnd) (by kcf_bnd) | decide) (by first | exact rangeSize_nat _ _ | rfl) (by first | (rw [PySem.sizeLine_eq]; omega) | (rw [PySem.sizeLine_eq]; (simp only [List.size_toArray]); omega) | size_fits) ?_; intro _))
  k_with "my CompRest" => (fail "mine")
  k_with "my compareOp Eq ref ref" => (k_here; k_dflt (first | (refine' tup_eq ?k1 ?k2 ?k3 ?k4 ?k5 ?_; (case k1 => exact News.isTup (by k_asm) (by k_mem)); (case k2 => exact News.isTup (by k_asm) (by k_mem)); (case k3 => l_ints); (case k4 => l_ints); (case k5 => ktr_units); k_whole) | (refine' eq_intsK ?k1 ?k2 ?k3 ?k4 ?k5 ?_; (case k1 => is_list); (case k2 => l_ints); (case k3 => is_list); (case k4 => l_ints); (case k5 => ktr_units); k_whole)))
  k_with "my compareOp NotEq ref ref" => (k_here; k_dflt (first | (refine' tup_ne ?k1 ?k2 ?k3 ?k4 ?k5 ?_; (case k1 => exact News.isTup (by k_asm) (by k_mem)); (case k2 => exact News.isTup (by k_asm) (by k_mem)); (case k3 => l_ints); (case k4 => l_ints); (case k5 => ktr_units); k_whole) | (refine' ne_intsK ?k1 ?k2 ?k3 ?k4 ?k5 ?_; (case k1 => is_list); (case k2 => l_ints); (case k3 => is_list); (case k4 => l_ints); (case k5 => ktr_units); k_whole)))
  k_with "my call type:tuple" => (k_here; (with_reducible show wpAny _ _ (call (Value.type _) [Value.ref _]) _ _ _); k_dflt (refine' call_tuple_tup ?k1 ?_; (case k1 => exact News.isTup (by k_asm) (by k_mem)); k_whole))
  k_with "my call builtin:len" => (k_here; (with_reducible show wpAny _ _ (call (Value.builtin "len") [Value.ref _]) _ _ _); k_dflt (refine' len_tupI ?k1 ?k2 ?k3 ?_; (case k1 => exact News.isTup (by k_asm) (by k_mem)); (case k2 => l_ints); (case k3 => omega); k_whole))
  k_with "my q of" => (first | exact q0 (by assumption) | exact q1 (by assumption) | exact q2 (by assumption) | exact q3 (by assumption) | exact q4 (by assumption) | exact q5 (by assumption) | exact q6 (by assumption) | exact q7 (by assumption) | exact q8 (by assumption) | exact q9 (by assumption))
  k_with "my q lt" => (first | assumption | exact Nat.lt_succ_self _ | walk_at "q of")
  k_with "my q ne" => (first | (refine' Nat.lt_of_lt_of_le ?h q_u7; (case h => walk_at "q lt")) | (refine' Nat.lt_of_lt_of_le ?h q_u6; (case h => walk_at "q lt")) | (refine' Nat.lt_of_lt_of_le ?h q_u5; (case h => walk_at "q lt")) | (refine' Nat.lt_of_lt_of_le ?h q_u4; (case h => walk_at "q lt")) | (refine' Nat.lt_of_lt_of_le ?h q_u3; (case h => walk_at "q lt")) | (refine' Nat.lt_of_lt_of_le ?h q_u2; (case h => walk_at "q lt")) | (refine' Nat.lt_of_lt_of_le ?h q_u1; (case h => walk_at "q lt")) | walk_at "q lt")
  k_with "my q eq" => (first | (refine' Eq.trans (by assumption) ?q; (case q => walk_at "q eq")) | (refine' Eq.trans q_t0 ?q; (case q => walk_at "q eq")) | exact rfl)
  k_with "own omega" => (first | decide | with_reducible first | assumption | (refine' q_gt ?q; (case q => walk_at "q ne")) | (refine' Ne.symm (q_gt ?q); (case q => walk_at "q ne")) | exact q_room1 (by assumption) rfl | exact q_room (by assumption) rfl | exact q_room0 (by assumption) | exact q_i0 | exact q_nlo | exact q_nhi (by assumption) | exact q_cnt (by assumption) | exact q_pos (by assumption) | exact q_blo (by assumption) | exact q_bhi (by assumption) | exact q_ble (by assumption) rfl | exact q_vlt (by assumption) rfl | exact q_vle (by assumption) rfl | (refine' q_ll ?e ?h; (case e => walk_at "q eq"); (case h => walk_at "q eq")) | (refine' q_kl ?h ?e ?f; (case h => assumption); (case e => walk_at "q eq"); (case f => walk_at "q eq")) | (refine' q_ix ?h ?e ?f; (case h => assumption); (case e => walk_at "q eq"); (case f => walk_at "q eq")) | (refine' q_le ?e ?h ?b; (case e => walk_at "q eq"); (case h => first | assumption | decide); (case b => decide)) | (refine' q_lhi ?e ?h; (case e => walk_at "q eq"); (case h => assumption)) | exact q_u1 | exact q_u2 | exact q_u3 | exact q_u4 | exact q_u5 | exact q_u6 | exact q_u7 | walk_at "q of")
  k_with "my subscriptTail" => (k_here; (with_reducible show wpAny _ _ (subscriptTail (PySem.Expr.List _ _) _ (Value.ref _) (Value.int _ _)) _ _ _); (with_unfolding_all (first | (refine' item_menuB 1 8 ?k1 ?k2 ?k3 ?k4 ?k5 ?kb ?_; (case k1 => is_list); (case k2 => l_ints); (case kb => decide); (case k3 => l_idx); (case k4 => l_idx); (case k5 => l_idx); k_whole) | (refine' item_menuB 1 9 ?k1 ?k2 ?k3 ?k4 ?k5 ?kb ?_; (case k1 => is_list); (case k2 => l_ints); (case kb => decide); (case k3 => l_idx); (case k4 => l_idx); (case k5 => l_idx); k_whole) | (refine' item_menuB 1 65535 ?k1 ?k2 ?k3 ?k4 ?k5 ?kb ?_; (case k1 => is_list); (case k2 => l_ints); (case kb => decide); (case k3 => l_idx); (case k4 => l_idx); (case k5 => l_idx); k_whole) | (refine' item_menuB (-7) 130 ?k1 ?k2 ?k3 ?k4 ?k5 ?kb ?_; (case k1 => is_list); (case k2 => l_ints); (case kb => decide); (case k3 => l_idx); (case k4 => l_idx); (case k5 => l_idx); k_whole))); intro _ _ _ _)
  k_with "own k_ne" => ((refine neN ?_; (try dsimp only); first | exact NE.out (by with_reducible assumption) | exact (NE.out (by with_reducible assumption)).symm | exact AllNE.get (by with_reducible assumption) (by k_mem) | exact (AllNE.get (by with_reducible assumption) (by k_mem)).symm | exact (AllNE3.getI (by with_reducible assumption) (by k_mem)).symm | exact (AllNE3.getC (by with_reducible assumption) (by k_mem)).symm | exact (AllNE3.getD (by with_reducible assumption) (by k_mem)).symm | omega))
  k_with "my drops" => (first | exact Drops.here | (refine' Drops.there ?kq; (case kq => (walk_at "drops"))))
  k_with "my pool asks" => ((case k2 => k_asm); (case k1 => k_asm); (case k3 => k_asm); (case k5 => k_asm); (case kN => assumption); (case kD => (walk_at "drops")); (case kK => first | exact rfl | assumption); (case kr => k_all); (case kx => assumption); (case ky => assumption); (case ky2 => assumption); (case kt => first | decide | omega); (case kt2 => first | decide | omega); (case kd => ktr_room); (case ku => ktr_units))
  k_with "my call ref" => (k_here; (with_reducible show wpAny _ _ (call (Value.ref 124) _) _ _ _); k_dflt (refine' take_ok ?k1 ?k2 ?k3 (drops_news ?kN ?kD) ?k5 ?kK ?kr ?kx ?ky ?ky2 ?kt ?kt2 ?kd ?ku ?_; (walk_at "pool asks"); intro _ _ _ _ _ _ _ _ _ _ _ _ _ _ _ _; (try dsimp only); (try k_fold)))
  k_with "my call ref" => (k_here; (with_reducible show wpAny _ _ (call (Value.ref 131) _) _ _ _); k_dflt (refine' number_ok ?k1 ?k2 ?k3 (drops_news ?kN ?kD) ?k5 ?kK ?kr ?kx ?ky ?ky2 ?kt ?kt2 ?kd ?ku ?_; (walk_at "pool asks"); intro _ _ _ _ _ _ _ _ _ _ _ _ _ _ _ _; (try dsimp only); (try k_fold)))
  k_with "my call ref" => (k_here; (with_reducible show wpAny _ _ (call (Value.ref 136) _) _ _ _); k_dflt (refine' table_ok ?k1 ?k2 ?k3 (drops_news ?kN ?kD) ?k5 ?kK ?kr ?kx ?ky ?ky2 ?kt ?kd ?ku ?kt2 ?_; (walk_at "pool asks"); intro _ _ _ _ _ _ _ _ _ _ _ _ ne' hof' _ _ _ _ _ _; (replace ne' := NE.mk ne'); (replace hof' := AllNE.of hof'); revert ne' hof'; intro _ _; (try dsimp only); (try k_fold)))
  k_with "my list asks" => ((case k2 => k_asm); (case k1 => k_asm); (case k3 => k_asm); (case k4 => k_asm); (case k5 => k_asm); (case m1 => k_mem); (case m2 => k_mem); (case kK => first | exact rfl | assumption); (case i1 => l_ints); (case i2 => l_ints); (case l1 => omega); (case l2 => omega); (case kd => ktr_room); (case ku => ktr_units))
  k_with "my list says" => ((unfold RetList); intro _ _ _ _ _ _ _ _ _ _ _ hof'; (replace hof' := AllNE.of hof'); revert hof'; intro _; (try dsimp only); (try k_fold))
  k_with "my call ref" => (k_here; (with_reducible show wpAny _ _ (call (Value.ref 93) _) _ _ _); k_dflt (refine' quant_call ?k1 ?k2 ?k3 ?k4 ?m1 ?m2 ?k5 ?kK ?i1 ?i2 ?l1 ?l2 ?q1 ?s1 ?s2 ?kd ?ku ?_; (walk_at "list asks"); (case q1 => assumption); (case s1 => first | decide | omega); (case s2 => first | decide | omega); (walk_at "list says")))
  k_with "my call ref" => (k_here; (with_reducible show wpAny _ _ (call (Value.ref 98) _) _ _ _); k_dflt (refine' deq_call ?k1 ?k2 ?k3 ?k4 ?m1 ?m2 ?k5 ?kK ?i1 ?i2 ?l1 ?l2 ?q1 ?kd ?ku ?_; (walk_at "list asks"); (case q1 => assumption); (walk_at "list says")))
  k_with "my call ref" => (k_here; (with_reducible show wpAny _ _ (call (Value.ref 103) _) _ _ _); k_dflt (refine' req_call ?k1 ?k2 ?k3 ?k4 ?m1 ?m2 ?m3 ?k5 ?kK ?i1 ?i2 ?i3 ?l1 ?l2 ?l3 ?q1 ?q2 ?kd ?ku ?_; (walk_at "list asks"); (case m3 => k_mem); (case i3 => l_ints); (case l3 => omega); (case q1 => assumption); (case q2 => assumption); (walk_at "list says")))
  k_with "my call ref" => (k_here; (with_reducible show wpAny _ _ (call (Value.ref 143) _) _ _ _); k_dflt (refine' isnr_ok ?k1 ?k2 ?k3 ?k4 ?k5 ?kK ?ka ?kb ?ky ?kd ?ku ?_; (case k2 => k_asm); (case k1 => k_asm); (case k3 => k_asm); (case k4 => k_asm); (case k5 => k_asm); (case kK => first | exact rfl | assumption); (case ka => omega); (case kb => omega); (case ky => assumption); (case kd => ktr_room); (case ku => ktr_units); intro _ _ _ _; (try dsimp only); (try k_fold)))
  k_with "my FinE" => ((unfold LCg.FinE); intro _ _ _ _ N'; (try simp only [List.nil_append, List.cons_append] at N'); revert N'; intro _ o1'; (replace o1' := AllNE.of o1'); revert o1'; intro _; (try dsimp only))
  k_with "my FinA" => ((unfold LCg.FinA); intro _ _ _ _ N'; (try simp only [List.nil_append, List.cons_append] at N'); revert N'; intro _ o1'; (replace o1' := AllNE.of o1'); revert o1'; intro _; (try dsimp only))
  k_with "my subscriptTail Name Name ref int" => (k_here; (with_reducible show wpAny _ _ (subscriptTail _ _ (Value.ref _) (Value.int _ _)) _ _ _); k_dflt (first | (refine' item_LI ?N ?m ?I ?k0 ?k1 ?kf ?_ ?hs ?hg; (case N => k_asm); (case m => k_mem); (case I => with_reducible assumption); (case k0 => omega); (case k1 => omega); (case kf => omega); (case hs => with_unfolding_all rfl); (case hg => intro _; with_unfolding_all rfl); k_whole) | (refine' item_TI ?N ?m ?I ?k0 ?k1 ?kf ?_ ?hs ?hg; (case N => k_asm); (case m => k_mem); (case I => with_reducible assumption); (case k0 => omega); (case k1 => omega); (case kf => omega); (case hs => with_unfolding_all rfl); (case hg => intro _; with_unfolding_all rfl); k_whole)); intro _)
  k_with "my eval Call" => (k_here; k_dflt (refine Call_ ?_))
  k_with "my call ref" => (k_here; (with_reducible show wpAny _ _ (call (Value.ref 65) _) _ _ _); k_dflt (refine' sctab_call ?k1 ?k2 ?k3 ?k4 ?m1 ?k5 ?kK ?i1 ?l1 ?kd ?ku ?_; (case k2 => k_asm); (case k1 => k_asm); (case k3 => k_asm); (case k4 => k_asm); (case k5 => k_asm); (case m1 => k_mem); (case kK => first | exact rfl | assumption); (case i1 => l_ints); (case l1 => first | omega | decide); (case kd => ktr_room); (case ku => ktr_units); intro _ _ _ _ _ _ _ _ _ _ hof'; (replace hof' := AllNE.of hof'); revert hof'; intro _; (try dsimp only); (try k_fold)))
  k_with "my call ref" => (k_here; (with_reducible show wpAny _ _ (call (Value.ref 79) _) _ _ _); k_dflt (refine' prec_call ?k1 ?k2 ?k3 ?k4 ?m1 ?k5 ?kK ?i1 ?kd ?ku ?_; (case k2 => k_asm); (case k1 => k_asm); (case k3 => k_asm); (case k4 => k_asm); (case k5 => k_asm); (case m1 => k_mem); (case kK => first | exact rfl | assumption); (case i1 => l_ints); (case kd => ktr_room); (case ku => ktr_units); intro _ _ _ _ _ _ _; (try dsimp only); (try k_fold)))
  k_with "my call builtin:min" => (k_here; (with_reducible show wpAny _ _ (call (Value.builtin "min") [Value.int _ _, Value.int _ _]) _ _ _); k_dflt (refine' min_op ?kh ?kF ?kN ?_; (case kh => rfl); (case kF => k_asm); (case kN => k_asm)); intro _ _ _ _ _ _ _; (try dsimp only); (try k_fold))
  k_with "my call builtin:max" => (k_here; (with_reducible show wpAny _ _ (call (Value.builtin "max") [Value.int _ _, Value.int _ _]) _ _ _); k_dflt (refine' max_op ?kh ?kF ?kN ?_; (case kh => rfl); (case kF => k_asm); (case kN => k_asm)); intro _ _ _ _ _ _ _; (try dsimp only); (try k_fold))
  k_with "my storeName" => (k_here; first | ((with_reducible show wpAny _ _ (storeName _ (Str.ofString "hundredths") (Value.int (Int.fdiv _ _) _)) _ _ _); refine gen_store ?_; intro _ _ _) | ((with_reducible show wpAny _ _ (storeName _ (Str.ofString "hundredths") (Value.int (_ - _) _)) _ _ _); refine gen_store ?_; intro _ _ _) | ((with_reducible show wpAny _ _ (storeName _ (Str.ofString "plain") (Value.int (Int.fdiv _ _) _)) _ _ _); refine gen_store ?_; intro _ _ _))
  k_with "my eval IfExp" => (k_here; (with_reducible show wpAny _ _ (PySem.eval (PySem.Expr.IfExp (PySem.Expr.Compare _ [PySem.CmpOp.GtE] _ _) _ _ _) _) _ _ _); (fail_if_success (with_reducible show wpAny _ _ _ (HundQ _ _ _ _ _ _) _ _)); refine Stop.mk ?_)
  k_with "my HundQ" => (refine Stop.mk ?_)
  k_with "my CompSrc" => (refine Stop.mk ?_)
  k_with "my CompSrcT" => (refine Stop.mk ?_)
  k_with "my eval ListComp" => (k_here; (with_reducible show wpAny _ _ (PySem.eval (PySem.Expr.ListComp _ [⟨_, _, [_], _⟩] _ _) _) _ _ _); refine Stop.mk ?_)
  k_with "my exec For Name Call cons nil" => (k_here; (rename Fr _ _ _ _ => lF'); (with_unfolding_all refine' For_invVF lF' ?k1 ?k2 ?_; (case k1 => exact rfl); (case k2 => exact rfl); k_whole))
  k_with "my pyIter ref" => (k_here; (with_reducible show wpAny _ _ (pyIter (Value.ref _)) (fun it s₂ => LoopAtV _ _ _ _ _ _ _ _ _ it s₂) _ _); refine Stop.mk ?_)
  k_with "my InvEndN" => (refine Stop.mk ?_)
  k_with "my FiltT" => (refine Stop.mk ?_)
  k_with "my NoneT" => (refine Stop.mk ?_)
  trivial
set_option maxRecDepth 100000 in
set_option maxHeartbeats 8000000 in
theorem qual_ok {w : World} {p : Program} {loose : List Str} {mean : ExcName → Option Value} {mg mb : Str → Option Value}
    {dp un : Nat} {gd : Option (List Code)} {cn : Str} {cs : Scope} {a : Addr} {ccd : Value} {cl : List (Str × Addr)} {outer : List Env} {A₀ : Around} {base h₀ : Heap} {L : Addr} {m : Str → Option Value} {s : Shared} {Q E : Value → Shared → Prop}
    {src : Addr} {x y : Int} {tx ty : Tok} {n : Nat} {rest : List (Addr × Obj)}
    (B : Below A₀ base outer h₀) (F : Fr h₀ L s.heap m) (X : (Mine.hd.heap_39 w.params).In h₀) (N : News h₀ L s.heap ((src, listOf #[.int x tx, .int y ty] n) :: rest)) (T : Top p loose mean mg mb h₀)
    (hk : cs.kind = .function) (hr : ∀ p ∈ rest, p.1 ≠ src) (hx : 0 ≤ x) (hy : 0 ≤ y) (hy2 : y < 2147483647) (hd : dp + 40 < recursionLimit) (hu : un + 600 < cLine)
    (ret : ∀ x' tx' y' ty' n' h' tk', Fr h₀ L h' m → News h₀ L h' ((src, listOf #[.int x' tx', .int y' ty'] n') :: rest) → 0 ≤ x' → 0 ≤ y' → y' < 2147483647 →
      Q (.bool true) { s with heap := h', toks := tk' }) :
    wpAny (model PySem.Challenge.rw_nt0538_01.row.prog w) (ktrTop dp un gd cn cs L a ccd cl outer) (call (.ref 153) [.ref src]) Q E s := by
  revert X; k_fill; intro X
  refine wpAny_call ?_
  k_dflt (walk_at "enter C")
  k_steps
  unfold Stop
  (rename _ = min (100 : Int) _ => hk2)
  (rename _ = max (1 : Int) _ => hk1)
  (rename News _ _ _ _ => N2)
  (rename Fr _ _ _ _ => F2)
  refine hund_join F2 N2 hk1 ?hund ?rest
  case hund =>
    k_steps
    all_goals unfold Stop
    · exact ⟨_, _, _, _, rfl, rfl, hund1 hk1 hk2 (by assumption) rfl, by k_asm, by k_asm⟩
    · exact ⟨_, _, _, _, rfl, rfl, hund2 hk1 hk2 (by assumption) rfl, by k_asm, by k_asm⟩
  intro hv0 t0 h0' tk0' hH F2' N2'
  clear F2 N2
  (try k_fold)
  k_steps
  unfold Stop
  (rename _ = List.map (scv _ _) _ => hT1)
  (rename IsRange _ _ _ _ _ _ _ _ => hR9)
  (rename IntsAre _ _ => hI1)
  (rename News _ _ _ _ => N3)
  (rename Fr _ _ _ _ => F3)
  (rename ∀ v ∈ _, 1 ≤ v ∧ v ≤ 65535 => hTq)
  (rename List.length _ = Int.toNat 4 => hTl)
  (rename List.length _ = List.length _ => hT1l)
  have hA1 := told_at hT1 hH
  have hHb := hund_bd hH
  have hTl4 : List.length _ = 4 := hTl
  refine iter_rangeJ (n := 4) (fun _ m nx => MapBut [Str.ofString "at", Str.ofString "plain"] _ m ∧ nx = _) (by rfl) hR9 (by decide) (by decide) F3 N3 ⟨MapBut.self, rfl⟩ ?_ ?_
  · rintro i t m₁ nx h tk own hi9 hoff ⟨⟨u, rfl⟩, rfl⟩ F' N'
    obtain ⟨k, hk9⟩ : ∃ k : Int, k = 0 + (i : Nat) * 1 := ⟨_, rfl⟩
    rw [← hk9] at F'
    have hb := getD_ok (k := k) hTq (by omega) (by omega)
    have hps := mul_bd2 hb.1 hb.2 hHb.1 hHb.2
    have e1 := hA1 k (by omega) (by omega)
    simp only [List.cons_append] at N'
    obtain ⟨rst, hrst⟩ : ∃ rst, rst = rest ++ own := ⟨_, rfl⟩
    rw [← hrst] at N'
    (try k_fold)
    k_steps
    · exfalso
      (rename _ = Int.fdiv _ _ => hpl)
      rw [← hpl] at e1
      omega
    · unfold Stop
      subst hrst
      refine InvEndN.intro (by k_asm) (by k_asm) ⟨MapBut.of ?_, rfl⟩ rfl (by kcf_all) (by kcf_all)
      intro y hy
      have h1 : y ≠ Str.ofString "at" := by rintro rfl; exact absurd hy (by decide)
      have h2 : y ≠ Str.ofString "plain" := by rintro rfl; exact absurd hy (by decide)
      simp only [h1, h2, if_false, hy, Bool.false_eq_true]
  · rintro m₁ nx h tk ⟨⟨u, rfl⟩, rfl⟩ F' N'
    clear N3 F3
    k_steps
    · unfold Stop
      (rename _ = List.map (scv (qsc (_ + 1 + _)) _) _ => hB1)
      have hle := better_le hT1 hB1 (better_mono hk1 hk2 (by assumption)) hTq
      k_dflt (refine LCt.ListComp_T (F₀ := by k_asm) (by with_unfolding_all rfl) (by decide) (by rfl) (by decide) (by rfl) ?_)
      k_steps
      unfold Stop
      k_dflt (refine LCt.CompSrcT.range (n := 4) (by rfl) (by k_asm) (by k_asm) (by assumption) (by decide) (by decide) (by rw [PySem.sizeLine_eq]; omega) ?_)
      intro g9
      refine comp_noneT ?_ ?_
      · rintro i hi v I' oI' C' oC' D' m' h' tk' E' ⟨t9, rfl⟩ hC' hx' F' N' off2 ne'
        have off3 := AllNE3.of off2
        replace ne' := NE.mk ne'.1
        have e1 := hle (0 + (i : Int)) (by omega) (by omega)
        (try k_fold)
        k_steps
        unfold Stop
        refine ⟨?_, LCg.CompEnd.intro (by k_asm) (by k_asm) _ (fun p hp => hp) off2 trivial rfl⟩
        first
          | exact decide_eq_false (by omega)
      · k_steps
        unfold Stop
        (rename _ = (if List.filter _ _ = [] then (0 : Int) else 1) => hpr)
        k_dflt (refine listComp_tupT (by k_asm) (by with_unfolding_all rfl) (by decide) (by rfl) (by decide) (by rfl) ?_)
        k_steps
        refine TupSrcT.intro hI1 (by rfl) (by k_asm) (by k_asm) (by k_mem) (by omega) (fun g8 => ?_)
        refine comp_filt (fun v => decide (255 < v)) hI1 hI1.length ?_ ?_
        · rintro i k t hk9 ys I' oI' C' oC' D' m' h' tk' E' hC' hx' F' N' off2 ne'
          have off3 := AllNE3.of off2
          replace ne' := NE.mk ne'.1
          (try k_fold)
          k_steps
          unfold Stop
          refine ⟨by rfl, ?_⟩
          split
          · k_steps
            exact LCg.CompEnd.intro (by k_asm) (by k_asm) _ (fun p hp => hp) off2 ⟨_, by k_mem, rfl, _, rfl⟩ ⟨⟨_, rfl⟩, rfl⟩
          · exact LCg.CompEnd.intro (by k_asm) (by k_asm) _ (fun p hp => hp) off2 ⟨_, by k_mem, rfl, _, rfl⟩ rfl
        · intro ys hys
          k_steps
          all_goals
            refine q_bool (Q := Q) ?_ (ret _ _ _ _ _ _ _ (by k_asm) (cb_drop (by k_asm) (by kcf_all)) ?_ ?_ ?_)
            all_goals first
              | assumption
              | (rw [hpr, if_pos (of_decide_eq_true (by assumption))]; rfl)
              | (rw [hpr, if_neg (of_decide_eq_false (by assumption))]; rfl)
    · exfalso
      (rename ¬ _ = [1, 1, 1, 1] => hne)
      (rename _ = List.map (scv (qsc 100) _) _ => h100)
      exact hne (h100.trans (map_100 (by assumption) hTl4))
    · exfalso
      (rename ¬ _ = _ => hne)
      (rename _ = List.map (scv (qsc 50) 65535) _ => h50)
      exact hne (h50.trans (map_50 hTq))
end
end
section
-- M0
open PySem.Calls
theorem words_19 : True := by
  k_with_none
  k_with "own k_all" => (assumption)
  k_with "my subscriptTail Name Constant ref int" => (k_here; (with_reducible show wpAny _ _ (subscriptTail _ _ (Value.ref _) (Value.int _ _)) _ _ _); (with_unfolding_all refine' item_litK ?k1 ?k2 ?k3 ?k4 ?_ ?k6; (case k1 => is_list); (case k2 => decide); (case k3 => decide); (case k4 => rfl); (case k6 => with_unfolding_all rfl); k_whole))
  k_with "my take asks" => ( (case k2 => k_asm); (case k1 => k_asm); (case k3 => k_asm); (case k5 => k_asm); (case kK => first | exact rfl | assumption); (case kr => k_all); (case kx => assumption); (case ky => assumption); (case ky2 => assumption); (case kt => first | decide | omega); (case kt2 => first | decide | omega); (case kd => ktr_room); (case ku => ktr_units); intro _ _ _ _ _ _ _ _ _ _ N' _ _ _ _ _; (try simp only [List.nil_append, List.cons_append] at N'); (try dsimp only); (try k_fold); (have N' := True.intro))
  k_with "my call ref" => (k_here; (with_reducible show wpAny _ _ (call (Value.ref 124) _) _ _ _); k_dflt (first | (refine' take_call (pre := []) ?k1 ?k2 ?k3 ?k4 ?k5 ?kK ?kr ?kx ?ky ?ky2 ?kt ?kt2 ?kd ?ku ?_; (case k4 => assumption); walk_at "take asks") | (refine' take_call (pre := [_]) ?k1 ?k2 ?k3 ?k4 ?k5 ?kK ?kr ?kx ?ky ?ky2 ?kt ?kt2 ?kd ?ku ?_; (case k4 => assumption); walk_at "take asks") | (refine' take_call (pre := [_, _]) ?k1 ?k2 ?k3 ?k4 ?k5 ?kK ?kr ?kx ?ky ?ky2 ?kt ?kt2 ?kd ?ku ?_; (case k4 => assumption); walk_at "take asks") | (refine' take_call (pre := [_, _, _]) ?k1 ?k2 ?k3 ?k4 ?k5 ?kK ?kr ?kx ?ky ?ky2 ?kt ?kt2 ?kd ?ku ?_; (case k4 => assumption); walk_at "take asks") | (refine' take_call (pre := [_, _, _, _]) ?k1 ?k2 ?k3 ?k4 ?k5 ?kK ?kr ?kx ?ky ?ky2 ?kt ?kt2 ?kd ?ku ?_; (case k4 => assumption); walk_at "take asks") | (refine' take_call (pre := [_, _, _, _, _]) ?k1 ?k2 ?k3 ?k4 ?k5 ?kK ?kr ?kx ?ky ?ky2 ?kt ?kt2 ?kd ?ku ?_; (case k4 => assumption); walk_at "take asks") | (refine' take_call (pre := [_, _, _, _, _, _]) ?k1 ?k2 ?k3 ?k4 ?k5 ?kK ?kr ?kx ?ky ?ky2 ?kt ?kt2 ?kd ?ku ?_; (case k4 => assumption); walk_at "take asks")))
  k_with "own k_all" => (first | assumption | exact lt_ne0 (by assumption) (by omega) | exact lt_ne1 (by assumption) (by omega) | exact lt_ne2 (by assumption) (by omega) | exact lt_ne3 (by assumption) (by omega))
  k_with "my enter C" => (refine' code_defC ?k1 ?k2 ?k3 ?k4 ?k5 ?kA ?kF ?kK ?k6 ?k7 ?k8 ?k9 ?kB ?kD ?_ ?c2 ?c3 ?c4; (case kA => exact rfl); (case kF => exact rfl); (case kK => assumption); (case k1 => k_asm); (case k2 => k_asm); (case k3 => k_asm); (case k4 => k_asm); (case k5 => k_asm); (case k6 => k_is); (case k7 => k_is); (case k8 => ktr_room); (case k9 => exact BindsTo.of_eq rfl); (case kB => exact rfl); (case kD => decide +kernel); (case c2 => exact rfl); (case c3 => exact rfl); (case c4 => exact rfl); k_whole; intro _ _ _ _ _ _ _ N' Y' B' _ _ l1; (have l2 := l1); (try k_lt l1); k_cells Y'; (try simp only [List.cons_append, List.nil_append] at N'); (try dsimp only); (try k_lift B'); (try k_fold); (have N' := True.intro); (have Y' := True.intro); (have B' := True.intro); (have l1 := True.intro); (have l2 := True.intro))
  k_with "my subscriptTail" => (k_here; (with_reducible show wpAny _ _ (subscriptTail (PySem.Expr.List _ _) _ (Value.ref _) (Value.int _ _)) _ _ _); (with_unfolding_all (first | (refine' item_menuB 1 65535 ?k1 ?k2 ?k3 ?k4 ?k5 ?kb ?_; (case k1 => is_list); (case k2 => l_ints); (case kb => decide); (case k3 => l_idx); (case k4 => l_idx); (case k5 => l_idx); k_whole) | (refine' item_menuB (-7) 130 ?k1 ?k2 ?k3 ?k4 ?k5 ?kb ?_; (case k1 => is_list); (case k2 => l_ints); (case kb => decide); (case k3 => l_idx); (case k4 => l_idx); (case k5 => l_idx); k_whole))); intro _ _ _ _)
  k_with "my eval ListComp" => (k_here; k_dflt (refine LCg.ListComp_U (F₀ := by k_asm) (by with_unfolding_all rfl) (by decide) (by rfl) (by decide) (by rfl) ?_))
  k_with "my CompSrc" => (k_here; k_dflt (refine LCg.CompSrc.range (by rfl) (by k_asm) (by k_asm) (by assumption) (by first | exact small_one (by kcf_bnd) (by kcf_bnd) (by kcf_bnd) (by kcf_bnd) | decide) (by first | exact rangeSize_nat _ _ | rfl) (by first | (rw [PySem.sizeLine_eq]; omega) | (rw [PySem.sizeLine_eq]; (simp only [List.size_toArray]); omega) | size_fits) ?_; intro _))
  k_with "my CompRest" => (fail "mine")
  k_with "my compareOp Eq ref ref" => (k_here; k_dflt (first | (refine' tup_eq ?k1 ?k2 ?k3 ?k4 ?k5 ?_; (case k1 => exact News.isTup (by k_asm) (by k_mem)); (case k2 => exact News.isTup (by k_asm) (by k_mem)); (case k3 => l_ints); (case k4 => l_ints); (case k5 => ktr_units); k_whole) | (refine' eq_intsK ?k1 ?k2 ?k3 ?k4 ?k5 ?_; (case k1 => is_list); (case k2 => l_ints); (case k3 => is_list); (case k4 => l_ints); (case k5 => ktr_units); k_whole)))
  k_with "my compareOp NotEq ref ref" => (k_here; k_dflt (first | (refine' tup_ne ?k1 ?k2 ?k3 ?k4 ?k5 ?_; (case k1 => exact News.isTup (by k_asm) (by k_mem)); (case k2 => exact News.isTup (by k_asm) (by k_mem)); (case k3 => l_ints); (case k4 => l_ints); (case k5 => ktr_units); k_whole) | (refine' ne_intsK ?k1 ?k2 ?k3 ?k4 ?k5 ?_; (case k1 => is_list); (case k2 => l_ints); (case k3 => is_list); (case k4 => l_ints); (case k5 => ktr_units); k_whole)))
  k_with "my call type:tuple" => (k_here; (with_reducible show wpAny _ _ (call (Value.type _) [Value.ref _]) _ _ _); k_dflt (refine' call_tuple_tup ?k1 ?_; (case k1 => exact News.isTup (by k_asm) (by k_mem)); k_whole))
  k_with "my call builtin:len" => (k_here; (with_reducible show wpAny _ _ (call (Value.builtin "len") [Value.ref _]) _ _ _); k_dflt (refine' len_tupI ?k1 ?k2 ?k3 ?_; (case k1 => exact News.isTup (by k_asm) (by k_mem)); (case k2 => l_ints); (case k3 => omega); k_whole))
  trivial
theorem kts_memX {env : Env} {outer : List Env} {L b : Addr} (hf : env.frame = some L) (hm : b ∈ (env :: outer).filterMap (·.frame)) : b = L ∨ b ∈ outer.filterMap (·.frame) := by
  obtain ⟨env', he, hb⟩ := List.mem_filterMap.mp hm
  rcases List.mem_cons.mp he with rfl | he
  · exact .inl (Option.some.inj (hb.symm.trans hf))
  · exact .inr (List.mem_filterMap.mpr ⟨env', he, hb⟩)
section
variable {prog : Program} {w : World} {A₀ A : Around} {s : Shared} {base h₀ : Heap} {outer : List Env} {L : Addr} {m : Str → Option Value} {env : Env} {news : List (Addr × Obj)} {K : Frag} {p : Program} {loose : List Str} {mean : ExcName → Option Value} {mg mb : Str → Option Value}
    {R : Result → Shared → Prop} {name qual : Str} {params : Arguments} {body : List Stmt} {scope : Scope} {dV kV doc pm cdv ct oc : Value} {an od : Option Addr} {osl : Array (Option Value)} {f : Addr} {args : Args} {binds : List (Str × Value)}
def LeaveT (A₀ : Around) (base : Heap) (env : Env) (outer : List Env) (K : Frag) (p : Program) (loose : List Str) (mean : ExcName → Option Value) (mg mb : Str → Option Value) (h₀ : Heap) (L : Addr) (m : Str → Option Value) (g : Heap) (R : Result → Shared → Prop) (v : Value) (s' : Shared) : Prop :=
  ∃ g' L' m' news', KtsTurn ((env :: outer).filterMap (·.frame)) g g' ∧ Fr g' L' s'.heap m' ∧ News g' L' s'.heap news' ∧ ∀ h₀', KtsTurn (outer.filterMap (·.frame)) h₀ h₀' → Fr h₀' L s'.heap m → News h₀' L s'.heap news' → Below A₀ base outer h₀' → K.In h₀' → Top p loose mean mg mb h₀' →
    KtsDicts (outer.filterMap (·.frame)) h₀' → R (.ok (.ret v)) s'
theorem groundT (B : Below A₀ base outer h₀) (F : Fr h₀ L s.heap m) (N : News h₀ L s.heap news) (XB : K.In base) (TB : Top p loose mean mg mb base) (D : KtsDicts (outer.filterMap (·.frame)) h₀) (hA : A.frames = some (env :: outer)) (hf : env.frame = some L) (hke : env.scope.kind = .function) :
    Fr h₀ L (hideAll s.heap (news.map (·.1))) m ∧ Below A base (env :: outer) (hideAll s.heap (news.map (·.1))) ∧ h₀.StaysIn (hideAll s.heap (news.map (·.1))) ∧ KtsDicts ((env :: outer).filterMap (·.frame)) (hideAll s.heap (news.map (·.1))) ∧
      ∀ v s', LeaveT A₀ base env outer K p loose mean mg mb h₀ L m (hideAll s.heap (news.map (·.1))) R v s' → R (.ok (.ret v)) s' := by
  obtain ⟨FG, BG, st, -⟩ := groundX (R := R) B F N hA hf hke
  obtain ⟨oL, es, ep, hLg, hLd, hLk, hLf⟩ := FG.ns
  have nL₀ : h₀.get? L = none := kts_self F
  refine ⟨FG, BG, st, fun b hb => ?_, fun v s' hl => ?_⟩
  · rcases kts_memX hf hb with rfl | hb
    · exact ⟨oL, es, ep, hLg, hLd⟩
    · obtain ⟨o, es', n', ho', hd'⟩ := D b hb
      exact ⟨o, es', n', st b o ho', hd'⟩
  · obtain ⟨g', L', m', news', T', F', N', k⟩ := hl
    obtain ⟨sl, hs⟩ := T'.up hLg
    obtain ⟨T₁, S₁⟩ := kts_turn_at (h := s'.heap) (fs := outer.filterMap (·.frame)) (g := h₀)
      (fun b hb => by
        obtain ⟨_, o, ho', _⟩ := B.frames.mem hb
        exact ⟨o, ho'⟩)
      (fun b o e nmem => F'.keep b o (T'.other b o (st b o e) (fun q => by
        rcases kts_memX hf q with z | z
        · rw [z, nL₀] at e
          cases e
        · exact nmem z)))
      (fun b o e hm => by
        obtain ⟨sl', hs'⟩ := T'.up (st b o e)
        exact ⟨sl', F'.keep _ _ hs'⟩)
    have B₃ : Below A₀ base outer (ktsHeap s'.heap (outer.filterMap (·.frame)) h₀) := ⟨B.stack, fun b o e => T₁.other b o (B.stays b o e) (fun hm => by
      rw [(B.frames.mem hm).1] at e
      cases e), B.frames.of_keeps fun b o e _ => by
      obtain ⟨sl', hs'⟩ := T₁.up e
      exact ⟨_, hs', rfl⟩⟩
    refine k _ T₁ ⟨⟨_, es, ep, F'.keep _ _ hs, hLd, hLk, hLf⟩, S₁, by rw [T₁.size]; exact F.above⟩ (fun p hp => ⟨(N' p hp).1, fun q => ?_, ?_⟩) B₃ (XB.keeps B₃.stays) (TB.keeps B₃.stays) (D.turn T₁)
    · have := (N' p hp).2.2; rw [q, hs] at this; cases this
    · refine T₁.none_ _ ?_
      cases q : h₀.get? p.1 with
      | none => rfl
      | some o =>
        obtain ⟨sl', hs'⟩ := T'.up (st _ _ q)
        have := (N' p hp).2.2
        rw [hs'] at this
        cases this
theorem code_defT (B : Below A₀ base outer h₀) (F : Fr h₀ L s.heap m) (X₀ : K.In h₀) (N : News h₀ L s.heap news) (T : Top p loose mean mg mb h₀) (XB : K.In base) (TB : Top p loose mean mg mb base) (D : KtsDicts (outer.filterMap (·.frame)) h₀) (hA : A.frames = some (env :: outer)) (hf : env.frame = some L) (hke : env.scope.kind = .function)
    (ho : K.lookup f = some ⟨oc, od, .func (fnOf name qual params body scope dV kV doc pm an cdv ct), osl⟩) (hcd : codeIn K cdv qual = true) (hroom : A.depth < recursionLimit)
    (hbind : BindsTo s (fnOf name qual params body scope dV kV doc pm an cdv ct) args binds) (hloc : ∀ y ∈ binds, scope.names.lookup y.1 = some .local)
    (h : ∀ g L' h₁, Fr h₀ L g m → Fr g L' h₁ (fun y => binds.reverse.lookup y) → News g L' h₁ news → Below A base (env :: outer) g → K.In g → Top p loose mean mg mb g → KtsDicts ((env :: outer).filterMap (·.frame)) g →
      wpAny (model prog w) (A.deeper (envOf qual scope L' f cdv)) (execs body (envOf qual scope L' f cdv))
        (fun fl s' => LeaveT A₀ base env outer K p loose mean mg mb h₀ L m g R (match fl with | .ret v => v | _ => .none) s')
        (fun e s' => wpAny (model prog w) (A.deeper (envOf qual scope L' f cdv)) (leaving (envOf qual scope L' f cdv) e) (fun _ s'' => R (.error e) s'') (fun e' s'' => R (.error e') s'') s')
        { s with heap := h₁, toks := s.toks + binds.length })
    (hco : scope.isCoroutine = false) (hgen : scope.isGenerator = false) (hk : scope.kind = .function)
    (hcell : ∀ x ∈ scope.names, x.2 ≠ .cell) : codeAny (model prog w) A (.call (.ref f) args) R s := by
  have X := X₀.keeps F.keep
  obtain ⟨FG, BG, st, DG, lv⟩ := groundT (R := R) B F N XB TB D hA hf hke
  refine codeAny_call_def (fd := fnOf name qual params body scope dV kV doc pm an cdv ct) (body := body) (binds := binds) hroom (X _ _ ho) rfl (T.nolimit.keeps F.keep) (codeRec_of X hcd) rfl hbind hcell hloc (fun h₁ hns hk₁ => ?_) hco hgen hk
  exact wpAny_mono (h _ s.heap.objs.size h₁ FG ⟨hns, fun b o e => hk₁ b o (of_hideAll _ e), Nat.le_of_eq (hideAll_size _ _)⟩
    (fun p hp => ⟨hk₁ _ _ (N p hp).1, Nat.ne_of_lt (Heap.lt_size (N p hp).1), hideAll_none _ (List.mem_map_of_mem hp)⟩) BG (X₀.keeps st) (T.keeps st) DG) (fun fl s' hl => lv _ _ hl) fun _ _ y => y
theorem code_defTC (B : Below A₀ base outer h₀) (F : Fr h₀ L s.heap m) (X₀ : K.In h₀) (N : News h₀ L s.heap news) (T : Top p loose mean mg mb h₀) (XB : K.In base) (TB : Top p loose mean mg mb base) (D : KtsDicts (outer.filterMap (·.frame)) h₀) (hA : A.frames = some (env :: outer)) (hf : env.frame = some L) (hke : env.scope.kind = .function)
    (ho : K.lookup f = some ⟨oc, od, .func (fnOf name qual params body scope dV kV doc pm an cdv ct), osl⟩) (hcd : codeIn K cdv qual = true) (hroom : A.depth < recursionLimit)
    (hbind : BindsTo s (fnOf name qual params body scope dV kV doc pm an cdv ct) args binds) (hkind : (binds.all fun y => scope.names.lookup y.1 == some .local || scope.names.lookup y.1 == some .cell) = true)
    (hnd : ((cellsFrom 0 scope.names []).map (·.1)).Nodup)
    (h : ∀ g L' h₁ tk cells, Fr h₀ L g m → Fr g L' h₁ (bindL (envOfC qual scope L' f cdv).kindOf binds fun _ => none) → News g L' h₁ (cells ++ news) →
      CellsAre (bindC (envOfC qual scope L' f cdv).kindOf binds fun _ => none) (cellsFrom (L' + 1) scope.names []) cells → Below A base (env :: outer) g → K.In g → Top p loose mean mg mb g → (∀ p ∈ news, p.1 < L') → KtsDicts ((env :: outer).filterMap (·.frame)) g →
      wpAny (model prog w) (A.deeper (envOfC qual scope L' f cdv)) (execs body (envOfC qual scope L' f cdv))
        (fun fl s' => LeaveT A₀ base env outer K p loose mean mg mb h₀ L m g R (match fl with | .ret v => v | _ => .none) s')
        (fun e s' => wpAny (model prog w) (A.deeper (envOfC qual scope L' f cdv)) (leaving (envOfC qual scope L' f cdv) e) (fun _ s'' => R (.error e) s'') (fun e' s'' => R (.error e') s'') s')
        { s with heap := h₁, toks := tk })
    (hco : scope.isCoroutine = false) (hgen : scope.isGenerator = false) (hk : scope.kind = .function) : codeAny (model prog w) A (.call (.ref f) args) R s := by
  have X := X₀.keeps F.keep
  obtain ⟨FG, BG, st, DG, lv⟩ := groundT (R := R) B F N XB TB D hA hf hke
  refine codeAny_call_function hroom (X _ _ ho) rfl hco hgen rfl (codeRec_of X hcd) (hbind _ _ _ _ ?_)
  refine wpAny_newFunctionEnv_cells hk (kindsX hkind _) fun env' he s' x => ?_
  subst he
  refine ⟨(T.nolimit.keeps F.keep).keeps x.toInCall.keep, codeAny_func ?_⟩
  obtain ⟨h₁, tk, rfl, _⟩ := x.done
  have hk₁ := x.toInCall.keep
  obtain ⟨cells, NC, Y⟩ := Cl.news (h₀ := s.heap) (Nat.le_refl _) fun n c hm => ⟨x.cell n c (lookup_of_mem_nodup (cellsFrom_names scope.names 0 (s.heap.objs.size + 1) [] [] rfl ▸ hnd) hm), x.above n c hm⟩
  refine wpAny_mono (h _ s.heap.objs.size h₁ tk cells FG ⟨x.toInCall.ns, fun b o e => hk₁ b o (of_hideAll _ e), Nat.le_of_eq (hideAll_size _ _)⟩ (fun p hp => ?_) Y BG (X₀.keeps st) (T.keeps st) (fun p hp => Heap.lt_size (N p hp).1) DG) (fun fl s' hl => lv _ _ hl) fun _ _ y => y
  rcases List.mem_append.mp hp with hp | hp
  · refine ⟨(NC p hp).1, (NC p hp).2.1, ?_⟩
    cases q : (hideAll s.heap (news.map (·.1))).get? p.1 with
    | none => rfl
    | some o => have := of_hideAll _ q; rw [(NC p hp).2.2] at this; cases this
  · exact ⟨hk₁ _ _ (N p hp).1, Nat.ne_of_lt (Heap.lt_size (N p hp).1), hideAll_none _ (List.mem_map_of_mem hp)⟩
end
end
section
-- M1
open PySem.Calls
section
variable {M : Model} {A : Around} {E : Value → Shared → Prop} {s' : Shared} {base g : Heap} {outer : List Env} {L a e t : Addr} {m : Str → Option Value} {name : Str} {scope : Scope} {cd : Value} {Q : Unit → Shared → Prop} {news : List (Addr × Obj)}
theorem leave_raiseT {cls : Value} {vs : List Value} {ws : Array Value} {oe ot : Obj} {n : Nat} {all : List (Addr × Obj)} (K : Below A base outer g) (F : Fr g L s'.heap m) (NA : News g L s'.heap all) (he : (e, oe) ∈ all) (ht : (t, ot) ∈ all) (hn : ∀ q ∈ news, q ∈ all ∧ q.1 ≠ e ∧ q.1 ≠ t)
    (hoe : oe.cls = cls) (hd : oe.data = .fields ws) (h0 : ws[0]? = some (.ref t)) (h1 : ws[1]? = some .none) (hot : ot.cls = .type "tuple") (hotd : ot.data = .seq vs.toArray n)
    (hQ : ∀ h', RaisedS base g outer e cls t vs news h' → RaisedK base outer e cls t vs news h' → g.UpToSlots h' → Q () { s' with heap := h' }) (hk : scope.kind = .function := by rfl) :
    wpAny M (A.deeper (envOf name scope L a cd)) (leaving (envOf name scope L a cd) (.ref e)) Q E s' := by
  have K' := K.push (name := name) (a := a) (cd := cd) F hk
  have hin : ∀ env ∈ (envOf name scope L a cd :: outer), ∀ b, env.frame = some b → b ∈ e :: t :: (envOf name scope L a cd :: outer).filterMap (·.frame) := fun env he b hb => .tail _ (.tail _ (List.mem_filterMap.mpr ⟨env, he, hb⟩))
  have ge := (NA _ he).2.2
  have gt := (NA _ ht).2.2
  have be := fresh_of_stays K.stays ge
  have bt := fresh_of_stays K.stays gt
  have st : base.StaysIn (hideAll s'.heap (e :: t :: (envOf name scope L a cd :: outer).filterMap (·.frame))) := fun b o q => hideAll_get _ (K'.stays b o q) fun hm => by
    rcases List.mem_cons.mp hm with z | hm
    · rw [z] at q; dsimp only at be; rw [be] at q; cases q
    · rcases List.mem_cons.mp hm with z | hm
      · rw [z] at q; dsimp only at bt; rw [bt] at q; cases q
      · rw [(K'.frames.mem hm).1] at q; cases q
  have sg : ∀ b o, g.get? b = some o → b ∉ outer.filterMap (·.frame) → (hideAll s'.heap (e :: t :: (envOf name scope L a cd :: outer).filterMap (·.frame))).get? b = some o := fun b o q nm => hideAll_get _ (F.keep b o q) fun hm => by
    rcases List.mem_cons.mp hm with z | hm
    · rw [z] at q; dsimp only at ge; rw [ge] at q; cases q
    · rcases List.mem_cons.mp hm with z | hm
      · rw [z] at q; dsimp only at gt; rw [gt] at q; cases q
      · rcases kts_mem hm with z | z
        · rw [z, kts_self F] at q; cases q
        · exact nm z
  have hl : ∀ q ∈ news, (hideAll s'.heap (e :: t :: (envOf name scope L a cd :: outer).filterMap (·.frame))).get? q.1 = some q.2 ∧ g.get? q.1 = none ∧ base.get? q.1 = none := fun q hq => by
    obtain ⟨hq, ne, nt⟩ := hn q hq
    refine ⟨hideAll_get _ (NA q hq).1 fun hm => ?_, (NA q hq).2.2, fresh_of_stays K.stays (NA q hq).2.2⟩
    rcases List.mem_cons.mp hm with z | hm
    · exact ne z
    · rcases List.mem_cons.mp hm with z | hm
      · exact nt z
      · obtain ⟨env, he, hf⟩ := List.mem_filterMap.mp hm
        rcases List.mem_cons.mp he with rfl | he
        · exact (NA q hq).2.1 (Option.some.inj hf).symm
        · obtain ⟨o, ho, _⟩ := (K.frames.mem (List.mem_filterMap.mpr ⟨env, he, hf⟩)).2
          rw [(NA q hq).2.2] at ho; cases ho
  have Be : (hideAll s'.heap (e :: t :: (envOf name scope L a cd :: outer).filterMap (·.frame))).get? e = none := hideAll_none _ (.head _)
  have Bt : (hideAll s'.heap (e :: t :: (envOf name scope L a cd :: outer).filterMap (·.frame))).get? t = none := hideAll_none _ (.tail _ (.head _))
  subst hoe
  refine wpAny_leaving_firstW (a0 := .ref t) K'.stack (funFrames_hide K'.frames hin) rfl (NA _ he).1 (fun b o q => of_hideAll _ q) Be hd h1 h0 fun h' hL => ?_
  obtain ⟨k1, ⟨_, _, k2⟩, k3, k4⟩ := hL
  have R : RaisedS base g outer e oe.cls t vs news h' := ⟨⟨_, st, sg, hl, ⟨k1, Be, k2, k3⟩, Bt⟩, Heap.TupAt.of_slots ⟨_, _, (NA _ ht).1, hot, hotd⟩ k4⟩
  exact hQ h' R R.toK ((Heap.UpToSlots.of_keeps F.keep).trans k4)
end
section
variable {prog : Program} {w : World} {A : Around} {E : Value → Shared → Prop} {s : Shared} {env : Env}
variable {nm q : Str} {C N : Addr} {bs bm : List Value} {hdct : Bool} {sn : List Str} {sub : List Value} {ab : Bool} {col : Option Bool} {dd : Option Addr} {k0 k1 k2 k3 k5 : Option Value} {newId : String}
theorem raiseStmt_own {M : Model} {x : Sem Value} {Q : Flow → Shared → Prop} (hbase : bm.contains (.type "BaseException") = true) (hh : A.handled = none)
    (h : wpAny M A x (fun v s₁ => ∃ e ed vs, v = .ref e ∧ s₁.heap.get? C = some (excClassObj nm q C N bs bm hdct sn sub ab col dd k0 k1 k2 k3 k5 newId) ∧
      s₁.heap.get? e = some { cls := .ref C, dict := ed, data := .fields vs } ∧ vs[1]? = some .none ∧ E (.ref e) s₁) E s) :
    wpAny M A (raiseStmt env (some x) none) Q E s := by
  have hcB : (Value.ref C :: bm).contains (.type "BaseException") = true := by rw [List.contains_cons, hbase, Bool.or_true]
  unfold raiseStmt
  refine wpAny_bind (wpAny_mono h (fun v s₁ h₁ => ?_) fun _ _ x => x)
  obtain ⟨e, ed, vs, rfl, hC, he, h1, hE⟩ := h₁
  obtain ⟨hp, g, d, tk, os⟩ := s₁
  repeat (first | with_reducible refine wpAny_loadPart_at he ?_ | with_reducible refine wpAny_loadPart_at hC ?_ | (with_reducible refine wpAny_isSubtype_exc hC ?_; rw [hcB]) | rw [h1] | wp_step)
  exact wpAny_raiseNew_none hh hE
theorem Raise_own {e₀ : PySem.Expr} {pos : Pos} {Q : Flow → Shared → Prop} (hbase : bm.contains (.type "BaseException") = true) (hh : A.handled = none)
    (h : wpAny (model prog w) A (eval e₀ env) (fun v s₁ => ∃ e ed vs, v = .ref e ∧ s₁.heap.get? C = some (excClassObj nm q C N bs bm hdct sn sub ab col dd k0 k1 k2 k3 k5 newId) ∧
      s₁.heap.get? e = some { cls := .ref C, dict := ed, data := .fields vs } ∧ vs[1]? = some .none ∧ E (.ref e) s₁) E s) :
    wpAny (model prog w) A (exec (.Raise (some e₀) none pos) env) Q E s := by
  rw [arm_exec_Raise]
  exact wpAny_bind (wpAny_standAt (raiseStmt_own hbase hh (wpAny_bind (wpAny_mono h (fun v s₃ h₃ => wpAny_bind (wpAny_standAt (wpAny_pure h₃))) fun _ _ x => x))))
end
end
section
-- M2
open PySem.Calls
section
variable {prog : Program} {w : World} {A : Around} {E : Value → Shared → Prop} {R : Result → Shared → Prop} {h : Heap} {g : Array GenState} {d : Drawn} {t : Nat} {os : OsState}
variable {nm q : Str} {C N fI : Addr} {bs bm bmB : List Value} {hdct : Bool} {sn : List Str} {sub : List Value} {ab : Bool} {col : Option Bool} {dd : Option Addr} {k0 k1 k2 k3 k5 : Option Value} {B newId initId : String}
def TypesAs (bmB bm : List Value) : Prop := ∀ (X : String) (b : Bool), bmB.contains (.type X) = b → bm.contains (.type X) = b
theorem exc_new_check {M : Model} (F : ExcBaseFacts B newId initId bmB) (hT : TypesAs bmB bm) {rest : List Value} {Q : Unit → Shared → Prop} (hC : h.get? C = some (excClassObj nm q C N bs bm hdct sn sub ab col dd k0 k1 k2 k3 k5 newId))
    (hq : Q () ⟨h, g, d, t, os⟩) : wpAny M A (checkBuiltinCall newId ⟨.ref C :: rest, []⟩) Q E ⟨h, g, d, t, os⟩ := by
  have hcont : (Value.ref C :: bm).contains (.type B) = true := by rw [List.contains_cons, hT _ _ F.hasB, Bool.or_true]
  have hstar := F.noStar
  simp only [checkBuiltinCall, F.newKind, F.newSplit, F.newRow]
  repeat (first | refine wpAny_loadPart_at hC ?_ | (refine wpAny_isSubtype_exc hC ?_; rw [hcont]) | refine wpAny_staticBase_exc hC ?_ | refine wpAny_madeBy_exc hC ?_ | simp only [bne_self_eq_false, Bool.false_eq_true, if_false] | wp_step)
  exact hq
abbrev excObj (C tt : Addr) : Obj := { cls := .ref C, data := .fields #[.ref tt, .none, .none, .none, .bool false, .none] }
abbrev tupObj (vs : List Value) : Obj := { cls := .type "tuple", data := .seq vs.toArray }
theorem exc_new (F : ExcBaseFacts B newId initId bmB) (hT : TypesAs bmB bm) {rest : List Value} (hC : h.get? C = some (excClassObj nm q C N bs bm hdct sn sub ab col dd k0 k1 k2 k3 k5 newId))
    (hq : R (.ok (.ret (.ref (h.objs.size + 1)))) ⟨(h.push (tupObj rest)).push (excObj C h.objs.size), g, d, t, os⟩) (hrest : rest.length ≤ sizeLine) :
    codeAny (model prog w) A (.builtin newId ⟨.ref C :: rest, []⟩) R ⟨h, g, d, t, os⟩ := by
  have hends := F.ends
  have hcB : (Value.ref C :: bm).contains (.type B) = true := by rw [List.contains_cons, hT _ _ F.hasB, Bool.or_true]
  have hcA : (Value.ref C :: bm).contains (.type "AttributeError") = false := by rw [List.contains_cons, hT _ _ F.noAttr]; rfl
  have hcN : (Value.ref C :: bm).contains (.type "NameError") = false := by rw [List.contains_cons, hT _ _ F.noName]; rfl
  refine codeAny_builtinAt F.entry ?_
  unfold Builtin.«BaseException.__new__»
  refine PySem.wpAt_bind ?_
  show PySem.wpAt _ _ _ (stack >>= _) _ _ _
  refine PySem.wpAt_bind (PySem.wpAt_stack fun p below => PySem.wpAt_of_wpAny ?_)
  wp_walk
  refine PySem.wpAt_of_wpAny ?_
  rw [F.owner]
  repeat (first | with_reducible refine wpAny_madeHere_exc F.canon hC ?_ | with_reducible refine wpAny_loadPart_at hC ?_ | (with_reducible refine wpAny_isSubtype_exc hC ?_; first | rw [hcB] | rw [hcA] | rw [hcN]) | wp_step)
  show R _ _
  rw [Heap.size_push]
  exact hq
theorem exc_call_own (F : ExcBaseFacts B newId initId bmB) (hT : TypesAs bmB bm) {rest : List Value} (hC : h.get? C = some (excClassObj nm q C N bs bm hdct sn sub ab col dd k0 k1 k2 k3 k5 newId))
    (hi : Looks (model prog w) h (typeLookup (.ref C) "__init__") (some (.ref fI))) (hb : ∀ self, Looks (model prog w) h (bindSpecial (.ref fI) self) (.ref fI, [self])) (hrest : rest.length ≤ sizeLine)
    (hq : codeAny (model prog w) (A.under (.builtin "type.__call__" ⟨.ref C :: rest, []⟩)) (.call (.ref fI) ⟨.ref (h.objs.size + 1) :: rest, []⟩) (InitBack (h.objs.size + 1) R) ⟨(h.push (tupObj rest)).push (excObj C h.objs.size), g, d, t, os⟩) :
    codeAny (model prog w) A (.call (.ref C) ⟨rest, []⟩) R ⟨h, g, d, t, os⟩ := by
  have f1 := tc_lookup
  have f2 := tc_bind (.ref C)
  have hTy : (⟨h, g, d, t, os⟩ : Shared).TypeIs (.ref C) "type" := ⟨_, hC, rfl⟩
  refine codeAny_of_tree ?_
  show wpAny _ _ (callAny (.ref C) _) _ _ _
  repeat (any_goals (first | assumption | with_reducible refine wpAny_loadPart_at hC ?_ | wp_step))
  refine ⟨rfl, ?_⟩
  refine codeAny_call_builtin_at (Code.quiet_builtin _ (by decide +kernel)) entry_typeCall (wpAny_check_type_call_sub hC ?_)
  repeat (first | with_reducible refine wpAny_loadPart_at hC ?_ | with_reducible refine wpAny_madeBy_exc hC ?_ | wp_step)
  refine codeAny_call_builtin_code (Code.quiet_builtin _ F.quiet) (exc_new_check F hT hC ?_)
  refine exc_new (rest := rest) F hT hC ?_ hrest
  show wpAny _ _ _ _ _ _
  have k : ∀ b o, h.get? b = some o → ((h.push (tupObj rest)).push (excObj C h.objs.size)).get? b = some o := fun b o e => Heap.get?_push_of_some _ (Heap.get?_push_of_some _ e)
  have hC₁ := k _ _ hC
  have hget : ((h.push (tupObj rest)).push (excObj C h.objs.size)).get? (h.objs.size + 1) = some { cls := .ref C, data := .fields #[.ref h.objs.size, .none, .none, .none, .bool false, .none] } := by heap_get
  have hcC : (Value.ref C :: bm).contains (.ref C) = true := by simp
  have i1 := hi.keeps k
  have b1 := (hb (.ref (h.objs.size + 1))).keeps k
  unfold isInstance
  repeat (first | (with_reducible refine wpAny_loadPart_at hget ?_; dsimp only) | (with_reducible refine wpAny_isSubtype_exc hC₁ ?_; rw [hcC]) | wp_step)
  show wpAny _ _ (typeLookup (.ref C) _) _ _ _
  refine i1.at ?_
  refine wpAny_holding (wpAny_bind (b1.at ?_))
  refine wpAny_bind (wpAny_call ?_)
  refine codeAny_mono hq fun r s' z => ?_
  rcases r with e | (v | _ | _ | _) <;> first | exact z | exact z.elim | skip
  obtain ⟨rfl, z⟩ := z
  exact wpAny_pure (wpAny_pure z)
end
section
variable {prog : Program} {w : World} {A : Around} {E : Value → Shared → Prop} {R : Result → Shared → Prop} {s : Shared} {h₀ : Heap} {L : Addr} {m : Str → Option Value} {news : List (Addr × Obj)}
variable {nm q : Str} {C N fI e t₀ : Addr} {bs bm bmB : List Value} {hdct : Bool} {sn : List Str} {sub : List Value} {ab : Bool} {col : Option Bool} {dd ed : Option Addr} {k0 k1 k2 k3 k5 : Option Value} {B newId initId : String}
theorem exc_callK (FB : ExcBaseFacts B newId initId bmB) (hT : TypesAs bmB bm) {rest : List Value} (F : Fr h₀ L s.heap m) (NN : News h₀ L s.heap news) (hC : s.heap.get? C = some (excClassObj nm q C N bs bm hdct sn sub ab col dd k0 k1 k2 k3 k5 newId))
    (hi : Looks (model prog w) s.heap (typeLookup (.ref C) "__init__") (some (.ref fI))) (hb : ∀ self, Looks (model prog w) s.heap (bindSpecial (.ref fI) self) (.ref fI, [self])) (hrest : rest.length ≤ sizeLine)
    (hq : ∀ e t h', Fr h₀ L h' m → News h₀ L h' ((e, excObj C t) :: (t, tupObj rest) :: news) → (∀ p ∈ news, p.1 < t) → t < e →
      codeAny (model prog w) (A.under (.builtin "type.__call__" ⟨.ref C :: rest, []⟩)) (.call (.ref fI) ⟨.ref e :: rest, []⟩) (InitBack e R) { s with heap := h' }) :
    codeAny (model prog w) A (.call (.ref C) ⟨rest, []⟩) R s := by
  obtain ⟨h, g, d, t, os⟩ := s
  refine exc_call_own FB hT hC hi hb hrest (hq _ h.objs.size _ ((F.push _).push _) ?_ (fun p hp => Heap.lt_size (NN p hp).1) (Nat.lt_succ_self _))
  have z := (NN.push F (tupObj rest)).push (F.push _) (excObj C h.objs.size)
  rwa [Heap.size_push] at z
theorem exc_init_check (FB : ExcBaseFacts B newId initId bmB) (hT : TypesAs bmB bm) {M : Model} {oe : Obj} {rest : List Value} {Q : Unit → Shared → Prop}
    (hC : s.heap.get? C = some (excClassObj nm q C N bs bm hdct sn sub ab col dd k0 k1 k2 k3 k5 newId)) (he : s.heap.get? e = some oe) (hcls : oe.cls = .ref C) (hq : Q () s) :
    wpAny M A (checkBuiltinCall initId ⟨.ref e :: rest, []⟩) Q E s := by
  obtain ⟨h, g, d, t, os⟩ := s
  have hcB : (Value.ref C :: bm).contains (.type B) = true := by rw [List.contains_cons, hT _ _ FB.hasB, Bool.or_true]
  have hshort := FB.noStar
  simp only [checkBuiltinCall, FB.initKind, FB.initSplit, FB.initRow]
  repeat (first | (with_reducible refine wpAny_loadPart_at he ?_; rw [hcls]) | with_reducible refine wpAny_loadPart_at hC ?_ | (with_reducible refine wpAny_isSubtype_exc hC ?_; rw [hcB]) | wp_step)
  refine wpAny_onRaise ?_
  rw [show ∀ (a b : String) (n : Nat), Bind.check ⟨.positional, "*", B, .self, [⟨"args", .varPos, false⟩]⟩ a b n (List.map (fun x => x.fst) ({ pos := Value.ref e :: rest } : Args).kw) = pure () from
    fun a b n => check_star_args _ _ _ _ _ _]
  exact wpAny_pure hq
theorem exc_initK (FB : ExcBaseFacts B newId initId bmB) (hT : TypesAs bmB bm) {rest : List Value} {pre post : List (Addr × Obj)} (F : Fr h₀ L s.heap m) (NN : News h₀ L s.heap (pre ++ (e, excObj C t₀) :: post)) (hC : s.heap.get? C = some (excClassObj nm q C N bs bm hdct sn sub ab col dd k0 k1 k2 k3 k5 newId))
    (h1 : ∀ p ∈ pre, p.1 ≠ e) (h2 : ∀ p ∈ post, p.1 ≠ e) (hrest : rest.length ≤ sizeLine)
    (hq : ∀ t h', Fr h₀ L h' m → News h₀ L h' ((t, tupObj rest) :: (pre ++ (e, excObj C t) :: post)) → (∀ p ∈ pre ++ (e, excObj C t₀) :: post, p.1 < t) → R (.ok (.ret .none)) { s with heap := h' }) :
    codeAny (model prog w) A (.call (.builtin initId) ⟨.ref e :: rest, []⟩) R s := by
  obtain ⟨h, g, d, t, os⟩ := s
  have he := (NN (e, excObj C t₀) (by simp)).1
  refine codeAny_call_builtin FB.init.plain FB.initEntry (exc_init_check FB hT hC he rfl ?_)
  wp_walk
  obtain ⟨F2, N2⟩ := news_upd (pre := (h.objs.size, tupObj rest) :: pre) (post := post) (d := e) (o := excObj C t₀) (o' := excObj C h.objs.size) (f := Obj.mapFields (·.setIfInBounds 0 (.ref h.objs.size))) (F.push (tupObj rest)) (NN.push F (tupObj rest))
    (fun p hp => by
      rcases List.mem_cons.mp hp with rfl | hp
      · exact Nat.ne_of_gt (Heap.lt_size he)
      · exact h1 p hp) h2 rfl rfl
  exact hq _ _ F2 N2 (fun p hp => Heap.lt_size (NN p hp).1)
end
end
section
-- M3
open PySem.Calls Builtin Builtin.ObjectAttr
section
variable {prog : Program} {w : World} {A : Around} {E : Value → Shared → Prop} {R : Result → Shared → Prop} {s : Shared} {K : Frag} {h₀ : Heap} {L x C t : Addr} {m : Str → Option Value} {pre post : List (Addr × Obj)} {name : Str} {v : Value} {cd : ClassData}
theorem osa_exc {ox : Obj} {od : Option Obj} {tk : Tok} (X : K.In s.heap) (I : PySem.W.InstAt s.heap x ox C od) (hc : clsIn K C = some cd) (hpass : refuseLoop (.ref x) "__setattr__" cd.mro = pure ()) (hobj : mroIn K C (.type "object") = some true) (ha : findIn K (.ref C) name = some none)
    (h : wpAny (model prog w) A.in1 (storeInOwnDict (.ref x) (.ref C) (.str name tk) name v false)
      (fun fin s' => match fin with | .done f => R (.ok f) s' | .again c' => c'.quiet = true ∧ codeAny (model prog w) A c' R s') (fun e s' => R (.error e) s') s) :
    codeAny (model prog w) A (.call (.builtin "object.__setattr__") ⟨[.ref x, .str name tk, v], []⟩) R s := by
  have SF := PySem.F.store_object
  have sub : Looks (model prog w) s.heap (isInstance (.ref x) (.type "object")) true := I.type.andThen (looks_mroIn X hobj)
  refine codeAny_call_builtin SF.slot.plain SF.entry (@check_slot (model prog w) _ _ s "object.__setattr__" "object" "__setattr__" (.ref x) [.str name tk, v] [] _ SF.kind SF.split sub (SF.args (.ref x) (.str name tk) v) ?_)
  have hm : Looks (model prog w) s.heap (mroOf (.ref C)) cd.mro := (looks_clsIn X hc).andThen .now
  have L3 : Looks (model prog w) s.heap (storeTaker? none) none := .now
  rw [osa_eq, refuse_eq]
  refine wpAny_bind (wpAny_bind (I.type.here (wpAny_bind (hm.here ?_))))
  rw [hpass]
  exact wpAny_pure (wpAny_bind (I.type.here (wpAny_bind ((looks_findIn X ha).here (wpAny_bind (L3.here h))))))
theorem exc_setK (X : K.In s.heap) (F : Fr h₀ L s.heap m) (NN : News h₀ L s.heap (pre ++ (x, excObj C t) :: post)) (h1 : ∀ p ∈ pre, p.1 ≠ x) (h2 : ∀ p ∈ post, p.1 ≠ x)
    (hs : findIn K (.ref C) "__setattr__" = some (some (.builtin "object.__setattr__"))) (hc : clsIn K C = some cd) (hpass : refuseLoop (.ref x) "__setattr__" cd.mro = pure ()) (hobj : mroIn K C (.type "object") = some true) (ha : findIn K (.ref C) name = some none) (hdc : cd.hasDict = true)
    {Q : Unit → Shared → Prop} (hq : ∀ d h' tk', Fr h₀ L h' m → News h₀ L h' (pre ++ (x, { excObj C t with dict := some d }) :: post) → Q () { s with heap := h', toks := tk' }) :
    wpAny (model prog w) A (setAttr (.ref x) name v) Q E s := by
  have he := (NN (x, excObj C t) (by simp)).1
  have I : PySem.W.InstAt s.heap x (excObj C t) C none := ⟨he, rfl, rfl, trivial⟩
  refine set_plain X I hs ?_
  obtain ⟨h, g, dr, tk, os⟩ := s
  refine osa_exc (s := ⟨h, g, dr, tk + 1, os⟩) X I hc hpass hobj ha ?_
  refine wpAny_bind (wpAny_pure (wpAny_bind (wpAny_bind (wpAny_loadPart he (wpAny_bind ((looks_clsIn X hc).at ?_))))))
  rw [hdc]
  have hx₁ : (h.push emptyDict).get? x = some (excObj C t) := Heap.get?_push_of_some _ he
  have hxs : x ≠ h.objs.size := Nat.ne_of_lt (Heap.lt_size he)
  show wpAny _ _ ((alloc emptyDict >>= fun d => _) : Sem (Option Addr)) _ _ _
  refine wpAny_bind (wpAny_alloc' ?_)
  refine wpAny_bind (wpAny_update' hx₁ ?_)
  refine wpAny_pure ?_
  have hgd : ((h.push emptyDict).update x fun o => { cls := o.cls, dict := some h.objs.size, data := o.data, slots := o.slots }).get? h.objs.size = some emptyDict :=
    (Heap.get?_update_ne _ _ _ _ hxs.symm).trans (Heap.get?_push_at rfl rfl)
  have hnd : ((h.push emptyDict).update x fun o => { cls := o.cls, dict := some h.objs.size, data := o.data, slots := o.slots }).Ns h.objs.size (fun _ => none) :=
    ⟨_, #[], _, hgd, rfl, fun e he => absurd he (by simp), fun _ => rfl⟩
  show wpAny _ _ (storeInDict h.objs.size (.str name tk) name v) _ _ _
  unfold storeInDict newKeyGuard
  refine wpAny_bind (wpAny_pure (wpAny_bind (wpAny_nsSet1 (Heap.Ns1.of_empty hnd) fun h' hn' hs => ?_)))
  obtain ⟨oD, esD, epD, hoD, hdD, hcD⟩ := hn'.count (Within.cons name v Within.nil)
  refine wpAny_bind (wpAny_lookBehind hoD (by rw [hdD]; exact pastItsLine_dict (Nat.le_trans hcD (by rw [List.length_cons, List.length_nil, sizeLine_eq]; omega))) ?_)
  obtain ⟨F2, N2⟩ := news_upd (pre := pre) (post := post) (d := x) (o := excObj C t) (o' := { excObj C t with dict := some h.objs.size }) (f := fun o => { cls := o.cls, dict := some h.objs.size, data := o.data, slots := o.slots }) (F.push emptyDict)
    (NN.grown fun _ _ e => Heap.get?_push_of_some _ e) h1 h2 rfl rfl
  have hLd : L ≠ h.objs.size := Nat.ne_of_lt F.ns.lt
  have h₀d : h₀.get? h.objs.size = none := next_is_new F
  refine wpAny_pure (hq h.objs.size h' _ ⟨F2.ns.sameBut hs hLd, fun b ob e => (hs.2 b (fun q => by rw [q, h₀d] at e; cases e)).trans (F2.keep b ob e), F2.above⟩ (fun p hp => ⟨(hs.2 p.1 (fun q => ?_)).trans (N2 p hp).1, (N2 p hp).2⟩))
  have lt : p.1 < h.objs.size := by
    rcases List.mem_append.mp hp with hp | hp
    · exact Heap.lt_size (NN p (List.mem_append_left _ hp)).1
    · rcases List.mem_cons.mp hp with rfl | hp
      · exact Heap.lt_size he
      · exact Heap.lt_size (NN p (List.mem_append_right _ (.tail _ hp))).1
  rw [q] at lt
  exact Nat.lt_irrefl _ lt
end
end
section
-- M4
open PySem.Calls
theorem types44 : TypesAs [.type "Exception", .type "BaseException", .type "object"] [.ref 31, .type "Exception", .type "BaseException", .type "object"] := by
  intro x b hb
  rw [List.contains_cons, hb]; rfl
theorem meta_Exception : typeOf (.type "Exception") = pure (.type "type") := by first | rfl | kernel_rfl
section
theorem words_20 : True := by
  k_with_none
  k_with "own k_all" => (assumption)
  k_with "my subscriptTail Name Constant ref int" => (k_here; (with_reducible show wpAny _ _ (subscriptTail _ _ (Value.ref _) (Value.int _ _)) _ _ _); (with_unfolding_all refine' item_litK ?k1 ?k2 ?k3 ?k4 ?_ ?k6; (case k1 => is_list); (case k2 => decide); (case k3 => decide); (case k4 => rfl); (case k6 => with_unfolding_all rfl); k_whole))
  k_with "my take asks" => ( (case k2 => k_asm); (case k1 => k_asm); (case k3 => k_asm); (case k5 => k_asm); (case kK => first | exact rfl | assumption); (case kr => k_all); (case kx => assumption); (case ky => assumption); (case ky2 => assumption); (case kt => first | decide | omega); (case kt2 => first | decide | omega); (case kd => ktr_room); (case ku => ktr_units); intro _ _ _ _ _ _ _ _ _ _ N' _ _ _ _ _; (try simp only [List.nil_append, List.cons_append] at N'); (try dsimp only); (try k_fold); (have N' := True.intro))
  k_with "my call ref" => (k_here; (with_reducible show wpAny _ _ (call (Value.ref 124) _) _ _ _); k_dflt (first | (refine' take_call (pre := []) ?k1 ?k2 ?k3 ?k4 ?k5 ?kK ?kr ?kx ?ky ?ky2 ?kt ?kt2 ?kd ?ku ?_; (case k4 => assumption); walk_at "take asks") | (refine' take_call (pre := [_]) ?k1 ?k2 ?k3 ?k4 ?k5 ?kK ?kr ?kx ?ky ?ky2 ?kt ?kt2 ?kd ?ku ?_; (case k4 => assumption); walk_at "take asks") | (refine' take_call (pre := [_, _]) ?k1 ?k2 ?k3 ?k4 ?k5 ?kK ?kr ?kx ?ky ?ky2 ?kt ?kt2 ?kd ?ku ?_; (case k4 => assumption); walk_at "take asks") | (refine' take_call (pre := [_, _, _]) ?k1 ?k2 ?k3 ?k4 ?k5 ?kK ?kr ?kx ?ky ?ky2 ?kt ?kt2 ?kd ?ku ?_; (case k4 => assumption); walk_at "take asks") | (refine' take_call (pre := [_, _, _, _]) ?k1 ?k2 ?k3 ?k4 ?k5 ?kK ?kr ?kx ?ky ?ky2 ?kt ?kt2 ?kd ?ku ?_; (case k4 => assumption); walk_at "take asks") | (refine' take_call (pre := [_, _, _, _, _]) ?k1 ?k2 ?k3 ?k4 ?k5 ?kK ?kr ?kx ?ky ?ky2 ?kt ?kt2 ?kd ?ku ?_; (case k4 => assumption); walk_at "take asks") | (refine' take_call (pre := [_, _, _, _, _, _]) ?k1 ?k2 ?k3 ?k4 ?k5 ?kK ?kr ?kx ?ky ?ky2 ?kt ?kt2 ?kd ?ku ?_; (case k4 => assumption); walk_at "take asks")))
  k_with "own k_all" => (first | assumption | exact lt_ne0 (by assumption) (by omega) | exact lt_ne1 (by assumption) (by omega) | exact lt_ne2 (by assumption) (by omega) | exact lt_ne3 (by assumption) (by omega))
  k_with "my enter C" => (refine' code_defC ?k1 ?k2 ?k3 ?k4 ?k5 ?kA ?kF ?kK ?k6 ?k7 ?k8 ?k9 ?kB ?kD ?_ ?c2 ?c3 ?c4; (case kA => exact rfl); (case kF => exact rfl); (case kK => assumption); (case k1 => k_asm); (case k2 => k_asm); (case k3 => k_asm); (case k4 => k_asm); (case k5 => k_asm); (case k6 => k_is); (case k7 => k_is); (case k8 => ktr_room); (case k9 => exact BindsTo.of_eq rfl); (case kB => exact rfl); (case kD => decide +kernel); (case c2 => exact rfl); (case c3 => exact rfl); (case c4 => exact rfl); k_whole; intro _ _ _ _ _ _ _ N' Y' B' _ _ l1; (have l2 := l1); (try k_lt l1); k_cells Y'; (try simp only [List.cons_append, List.nil_append] at N'); (try dsimp only); (try k_lift B'); (try k_fold); (have N' := True.intro); (have Y' := True.intro); (have B' := True.intro); (have l1 := True.intro); (have l2 := True.intro))
  k_with "my subscriptTail" => (k_here; (with_reducible show wpAny _ _ (subscriptTail (PySem.Expr.List _ _) _ (Value.ref _) (Value.int _ _)) _ _ _); (with_unfolding_all (first | (refine' item_menuB 1 65535 ?k1 ?k2 ?k3 ?k4 ?k5 ?kb ?_; (case k1 => is_list); (case k2 => l_ints); (case kb => decide); (case k3 => l_idx); (case k4 => l_idx); (case k5 => l_idx); k_whole) | (refine' item_menuB (-7) 130 ?k1 ?k2 ?k3 ?k4 ?k5 ?kb ?_; (case k1 => is_list); (case k2 => l_ints); (case kb => decide); (case k3 => l_idx); (case k4 => l_idx); (case k5 => l_idx); k_whole))); intro _ _ _ _)
  k_with "my eval ListComp" => (k_here; k_dflt (refine LCg.ListComp_U (F₀ := by k_asm) (by with_unfolding_all rfl) (by decide) (by rfl) (by decide) (by rfl) ?_))
  k_with "my CompSrc" => (k_here; k_dflt (refine LCg.CompSrc.range (by rfl) (by k_asm) (by k_asm) (by assumption) (by first | exact small_one (by kcf_bnd) (by kcf_bnd) (by kcf_bnd) (by kcf_bnd) | decide) (by first | exact rangeSize_nat _ _ | rfl) (by first | (rw [PySem.sizeLine_eq]; omega) | (rw [PySem.sizeLine_eq]; (simp only [List.size_toArray]); omega) | size_fits) ?_; intro _))
  k_with "my CompRest" => (fail "mine")
  k_with "my compareOp Eq ref ref" => (k_here; k_dflt (first | (refine' tup_eq ?k1 ?k2 ?k3 ?k4 ?k5 ?_; (case k1 => exact News.isTup (by k_asm) (by k_mem)); (case k2 => exact News.isTup (by k_asm) (by k_mem)); (case k3 => l_ints); (case k4 => l_ints); (case k5 => ktr_units); k_whole) | (refine' eq_intsK ?k1 ?k2 ?k3 ?k4 ?k5 ?_; (case k1 => is_list); (case k2 => l_ints); (case k3 => is_list); (case k4 => l_ints); (case k5 => ktr_units); k_whole)))
  k_with "my compareOp NotEq ref ref" => (k_here; k_dflt (first | (refine' tup_ne ?k1 ?k2 ?k3 ?k4 ?k5 ?_; (case k1 => exact News.isTup (by k_asm) (by k_mem)); (case k2 => exact News.isTup (by k_asm) (by k_mem)); (case k3 => l_ints); (case k4 => l_ints); (case k5 => ktr_units); k_whole) | (refine' ne_intsK ?k1 ?k2 ?k3 ?k4 ?k5 ?_; (case k1 => is_list); (case k2 => l_ints); (case k3 => is_list); (case k4 => l_ints); (case k5 => ktr_units); k_whole)))
  k_with "my call type:tuple" => (k_here; (with_reducible show wpAny _ _ (call (Value.type _) [Value.ref _]) _ _ _); k_dflt (refine' call_tuple_tup ?k1 ?_; (case k1 => exact News.isTup (by k_asm) (by k_mem)); k_whole))
  k_with "my call builtin:len" => (k_here; (with_reducible show wpAny _ _ (call (Value.builtin "len") [Value.ref _]) _ _ _); k_dflt (refine' len_tupI ?k1 ?k2 ?k3 ?_; (case k1 => exact News.isTup (by k_asm) (by k_mem)); (case k2 => l_ints); (case k3 => omega); k_whole))
  k_with "my getMethod type:Exception" => (k_here; refine' method_type ?F ?X ?m (by decide +kernel) ?e ?h ?_; (case F => k_asm); (case X => k_asm); (case m => exact meta_Exception); (case e => k_dflt k_is); (case h => k_handed))
  trivial
set_option maxRecDepth 100000 in
set_option maxHeartbeats 8000000 in
theorem taberr_ok {w : World} {p : Program} {loose : List Str} {mean : ExcName → Option Value} {mg mb : Str → Option Value}
    {dp un : Nat} {gd : Option (List Code)} {cn : Str} {cs : Scope} {a : Addr} {ccd : Value} {cl : List (Str × Addr)} {outer : List Env} {A₀ : Around} {base h₀ : Heap} {L : Addr} {m : Str → Option Value} {s : Shared} {Q E : Value → Shared → Prop}
    {S : Str} {ts : Tok} {news : List (Addr × Obj)}
    (B : Below A₀ base outer h₀) (F : Fr h₀ L s.heap m) (X : (Mine.hd.heap_39 w.params).In h₀) (N : News h₀ L s.heap news) (T : Top p loose mean mg mb h₀)
    (hk : cs.kind = .function) (hd : dp + 5 < recursionLimit) (hu : un + 60 < cLine)
    (ret : ∀ e t d h' tk', Fr h₀ L h' m → News h₀ L h' ((e, { excObj 44 t with dict := some d }) :: (t, tupObj [.str S ts]) :: news) → (∀ p ∈ news, p.1 < e ∧ p.1 < t) → t ≠ e → Q (.ref e) { s with heap := h', toks := tk' }) :
    wpAny (model PySem.Challenge.rw_nt0538_01.row.prog w) (ktrTop dp un gd cn cs L a ccd cl outer) (call (.ref 44) [.str S ts]) Q E s := by
  have X1 := X.keeps F.keep
  have hC : s.heap.get? 44 = some _ := X1 44 _ rfl
  refine wpAny_call (exc_callK (fI := 28) (bmB := [.type "Exception", .type "BaseException", .type "object"]) PySem.F.excBase_Exception ?hT F N hC ?hi ?hb (by rw [sizeLine_eq]; exact Nat.le_of_ble_eq_true rfl) ?hq)
  case hT => exact types44
  case hi => exact looks_findIn X1 (by rfl)
  case hb => exact fun self => bind_fn X1 self (by rfl)
  case hq =>
    intro e t h' F1 N1 hlt hte
    clear X1 hC
    revert X; k_fill; intro X
    k_dflt cell_enter
    k_steps
    (rename Fr _ _ _ _ => F2)
    (rename News _ _ _ _ => N2)
    (rename Frag.In _ _ => X2)
    have X3 := X2.keeps F2.keep
    refine wpAny_call (exc_initK (pre := []) (bmB := [.type "Exception", .type "BaseException", .type "object"]) PySem.F.excBase_Exception types44 F2 N2 (X3 44 _ rfl) (List.forall_mem_nil _) ?h2 (by rw [sizeLine_eq]; exact Nat.le_of_ble_eq_true rfl) ?hq2)
    case h2 =>
      intro p hp
      rcases List.mem_cons.mp hp with rfl | hp
      · exact Nat.ne_of_lt hte
      · exact Nat.ne_of_lt (Nat.lt_trans (hlt p hp) hte)
    case hq2 =>
      intro t2 h2 F4 N4 hlt2
      clear F2 N2 X3
      dsimp only
      k_steps
      (rename Fr _ _ _ _ => F5)
      (rename News _ _ _ _ => N5)
      have het2 : e < t2 := hlt2 (e, excObj 44 t) (.head _)
      have hnt2 : ∀ p ∈ news, p.1 < t2 := fun p hp => hlt2 p (.tail _ (.tail _ hp))
      refine exc_setK (pre := [(t2, tupObj [.str S ts])]) (t := t2) (C := 44) (X2.keeps F5.keep) F5 N5 ?h1 ?h2 (by rfl) (by rfl) ?hpass (by rfl) (by rfl) (by rfl) ?hq3
      case h1 =>
        intro p hp
        rw [List.mem_singleton.mp hp]
        exact Nat.ne_of_gt het2
      case h2 =>
        intro p hp
        rcases List.mem_cons.mp hp with rfl | hp
        · exact Nat.ne_of_lt hte
        · exact Nat.ne_of_lt (Nat.lt_trans (hlt p hp) hte)
      case hpass =>
        show refuseLoop (.ref e) "__setattr__" [.ref 44, .ref 31, .type "Exception", .type "BaseException", .type "object"] = pure ()
        rw [refuseLoop_ref, refuseLoop_ref]
        exact PySem.F.store_Exception.passes (.ref e)
      case hq3 =>
        intro d h6 tk6 F6 N6
        clear F5 N5
        dsimp only
        k_steps
        exact ret e t2 d _ _ (by k_asm) (cb_drop (by k_asm) (by kcf_all)) (fun p hp => ⟨Nat.lt_trans (hlt p hp) hte, hnt2 p hp⟩) (Nat.ne_of_gt het2)
end
end
section
-- N1
open PySem.Calls
theorem words_21 : True := by
  k_with_none
  k_with "own k_all" => (assumption)
  k_with "my subscriptTail Name Constant ref int" => (k_here; (with_reducible show wpAny _ _ (subscriptTail _ _ (Value.ref _) (Value.int _ _)) _ _ _); (with_unfolding_all refine' item_litK ?k1 ?k2 ?k3 ?k4 ?_ ?k6; (case k1 => is_list); (case k2 => decide); (case k3 => decide); (case k4 => rfl); (case k6 => with_unfolding_all rfl); k_whole))
  k_with "my take asks" => ( (case k2 => k_asm); (case k1 => k_asm); (case k3 => k_asm); (case k5 => k_asm); (case kK => first | exact rfl | assumption); (case kr => k_all); (case kx => assumption); (case ky => assumption); (case ky2 => assumption); (case kt => first | decide | omega); (case kt2 => first | decide | omega); (case kd => ktr_room); (case ku => ktr_units); intro _ _ _ _ _ _ _ _ _ _ N' _ _ _ _ _; (try simp only [List.nil_append, List.cons_append] at N'); (try dsimp only); (try k_fold); (have N' := True.intro))
  k_with "my call ref" => (k_here; (with_reducible show wpAny _ _ (call (Value.ref 124) _) _ _ _); k_dflt (first | (refine' take_call (pre := []) ?k1 ?k2 ?k3 ?k4 ?k5 ?kK ?kr ?kx ?ky ?ky2 ?kt ?kt2 ?kd ?ku ?_; (case k4 => assumption); walk_at "take asks") | (refine' take_call (pre := [_]) ?k1 ?k2 ?k3 ?k4 ?k5 ?kK ?kr ?kx ?ky ?ky2 ?kt ?kt2 ?kd ?ku ?_; (case k4 => assumption); walk_at "take asks") | (refine' take_call (pre := [_, _]) ?k1 ?k2 ?k3 ?k4 ?k5 ?kK ?kr ?kx ?ky ?ky2 ?kt ?kt2 ?kd ?ku ?_; (case k4 => assumption); walk_at "take asks") | (refine' take_call (pre := [_, _, _]) ?k1 ?k2 ?k3 ?k4 ?k5 ?kK ?kr ?kx ?ky ?ky2 ?kt ?kt2 ?kd ?ku ?_; (case k4 => assumption); walk_at "take asks") | (refine' take_call (pre := [_, _, _, _]) ?k1 ?k2 ?k3 ?k4 ?k5 ?kK ?kr ?kx ?ky ?ky2 ?kt ?kt2 ?kd ?ku ?_; (case k4 => assumption); walk_at "take asks") | (refine' take_call (pre := [_, _, _, _, _]) ?k1 ?k2 ?k3 ?k4 ?k5 ?kK ?kr ?kx ?ky ?ky2 ?kt ?kt2 ?kd ?ku ?_; (case k4 => assumption); walk_at "take asks") | (refine' take_call (pre := [_, _, _, _, _, _]) ?k1 ?k2 ?k3 ?k4 ?k5 ?kK ?kr ?kx ?ky ?ky2 ?kt ?kt2 ?kd ?ku ?_; (case k4 => assumption); walk_at "take asks")))
  k_with "own k_all" => (first | assumption | exact lt_ne0 (by assumption) (by omega) | exact lt_ne1 (by assumption) (by omega) | exact lt_ne2 (by assumption) (by omega) | exact lt_ne3 (by assumption) (by omega))
  k_with "my enter C" => (refine' code_defC ?k1 ?k2 ?k3 ?k4 ?k5 ?kA ?kF ?kK ?k6 ?k7 ?k8 ?k9 ?kB ?kD ?_ ?c2 ?c3 ?c4; (case kA => exact rfl); (case kF => exact rfl); (case kK => assumption); (case k1 => k_asm); (case k2 => k_asm); (case k3 => k_asm); (case k4 => k_asm); (case k5 => k_asm); (case k6 => k_is); (case k7 => k_is); (case k8 => ktr_room); (case k9 => exact BindsTo.of_eq rfl); (case kB => exact rfl); (case kD => decide +kernel); (case c2 => exact rfl); (case c3 => exact rfl); (case c4 => exact rfl); k_whole; intro _ _ _ _ _ _ _ N' Y' B' _ _ l1; (have l2 := l1); (try k_lt l1); k_cells Y'; (try simp only [List.cons_append, List.nil_append] at N'); (try dsimp only); (try k_lift B'); (try k_fold); (have N' := True.intro); (have Y' := True.intro); (have B' := True.intro); (have l1 := True.intro); (have l2 := True.intro))
  k_with "my subscriptTail" => (k_here; (with_reducible show wpAny _ _ (subscriptTail (PySem.Expr.List _ _) _ (Value.ref _) (Value.int _ _)) _ _ _); (with_unfolding_all (first | (refine' item_menuB 1 65535 ?k1 ?k2 ?k3 ?k4 ?k5 ?kb ?_; (case k1 => is_list); (case k2 => l_ints); (case kb => decide); (case k3 => l_idx); (case k4 => l_idx); (case k5 => l_idx); k_whole) | (refine' item_menuB (-7) 130 ?k1 ?k2 ?k3 ?k4 ?k5 ?kb ?_; (case k1 => is_list); (case k2 => l_ints); (case kb => decide); (case k3 => l_idx); (case k4 => l_idx); (case k5 => l_idx); k_whole))); intro _ _ _ _)
  k_with "my eval ListComp" => (k_here; k_dflt (refine LCg.ListComp_U (F₀ := by k_asm) (by with_unfolding_all rfl) (by decide) (by rfl) (by decide) (by rfl) ?_))
  k_with "my CompSrc" => (k_here; k_dflt (refine LCg.CompSrc.range (by rfl) (by k_asm) (by k_asm) (by assumption) (by first | exact small_one (by kcf_bnd) (by kcf_bnd) (by kcf_bnd) (by kcf_bnd) | decide) (by first | exact rangeSize_nat _ _ | rfl) (by first | (rw [PySem.sizeLine_eq]; omega) | (rw [PySem.sizeLine_eq]; (simp only [List.size_toArray]); omega) | size_fits) ?_; intro _))
  k_with "my CompRest" => (fail "mine")
  k_with "my compareOp Eq ref ref" => (k_here; k_dflt (first | (refine' tup_eq ?k1 ?k2 ?k3 ?k4 ?k5 ?_; (case k1 => exact News.isTup (by k_asm) (by k_mem)); (case k2 => exact News.isTup (by k_asm) (by k_mem)); (case k3 => l_ints); (case k4 => l_ints); (case k5 => ktr_units); k_whole) | (refine' eq_intsK ?k1 ?k2 ?k3 ?k4 ?k5 ?_; (case k1 => is_list); (case k2 => l_ints); (case k3 => is_list); (case k4 => l_ints); (case k5 => ktr_units); k_whole)))
  k_with "my compareOp NotEq ref ref" => (k_here; k_dflt (first | (refine' tup_ne ?k1 ?k2 ?k3 ?k4 ?k5 ?_; (case k1 => exact News.isTup (by k_asm) (by k_mem)); (case k2 => exact News.isTup (by k_asm) (by k_mem)); (case k3 => l_ints); (case k4 => l_ints); (case k5 => ktr_units); k_whole) | (refine' ne_intsK ?k1 ?k2 ?k3 ?k4 ?k5 ?_; (case k1 => is_list); (case k2 => l_ints); (case k3 => is_list); (case k4 => l_ints); (case k5 => ktr_units); k_whole)))
  k_with "my call type:tuple" => (k_here; (with_reducible show wpAny _ _ (call (Value.type _) [Value.ref _]) _ _ _); k_dflt (refine' call_tuple_tup ?k1 ?_; (case k1 => exact News.isTup (by k_asm) (by k_mem)); k_whole))
  k_with "my call builtin:len" => (k_here; (with_reducible show wpAny _ _ (call (Value.builtin "len") [Value.ref _]) _ _ _); k_dflt (refine' len_tupI ?k1 ?k2 ?k3 ?_; (case k1 => exact News.isTup (by k_asm) (by k_mem)); (case k2 => l_ints); (case k3 => omega); k_whole))
  k_with "my subscriptTail" => (k_here; (with_reducible show wpAny _ _ (subscriptTail (PySem.Expr.List _ _) _ (Value.ref _) (Value.int _ _)) _ _ _); (with_unfolding_all (first | (refine' item_menuB 1 8 ?k1 ?k2 ?k3 ?k4 ?k5 ?kb ?_; (case k1 => is_list); (case k2 => l_ints); (case kb => decide); (case k3 => l_idx); (case k4 => l_idx); (case k5 => l_idx); k_whole) | (refine' item_menuB 1 9 ?k1 ?k2 ?k3 ?k4 ?k5 ?kb ?_; (case k1 => is_list); (case k2 => l_ints); (case kb => decide); (case k3 => l_idx); (case k4 => l_idx); (case k5 => l_idx); k_whole) | (refine' item_menuB 1 65535 ?k1 ?k2 ?k3 ?k4 ?k5 ?kb ?_; (case k1 => is_list); (case k2 => l_ints); (case kb => decide); (case k3 => l_idx); (case k4 => l_idx); (case k5 => l_idx); k_whole) | (refine' item_menuB (-7) 130 ?k1 ?k2 ?k3 ?k4 ?k5 ?kb ?_; (case k1 => is_list); (case k2 => l_ints); (case kb => decide); (case k3 => l_idx); (case k4 => l_idx); (case k5 => l_idx); k_whole))); intro _ _ _ _)
  trivial
def Raise44 (w : World) (E : Value → Shared → Prop) (v : Value) (s₁ : Shared) : Prop :=
  ∃ e ed vs, v = .ref e ∧ (Mine.hd.heap_39 w.params).In s₁.heap ∧ s₁.heap.get? e = some { cls := .ref 44, dict := ed, data := .fields vs } ∧ vs[1]? = some .none ∧ E (.ref e) s₁
theorem Raise_44 {prog : Program} {w : World} {A : Around} {E : Value → Shared → Prop} {s : Shared} {env : Env} {e₀ : PySem.Expr} {pos : Pos} {Q : Flow → Shared → Prop} (hh : A.handled = none)
    (h : wpAny (model prog w) A (eval e₀ env) (Raise44 w E) E s) : wpAny (model prog w) A (exec (.Raise (some e₀) none pos) env) Q E s := by
  refine Raise_own (nm := Str.ofString "TableError") (q := Str.ofString "TableError") (C := 44) (N := 43) (bs := [.ref 31]) (bm := [.ref 31, .type "Exception", .type "BaseException", .type "object"]) (hdct := true) (sn := []) (sub := []) (ab := false) (col := none) (dd := none) (k0 := some (.ref 35)) (k1 := none) (k2 := some (.str (Str.ofString "TableError") 218)) (k3 := some (.str (Str.ofString "TableError") 226)) (k5 := some (.bool true)) (newId := "Exception.__new__") (by decide) hh (wpAny_mono h (fun v s₁ hq => ?_) fun _ _ z => z)
  obtain ⟨e, ed, vs, rfl, X, he, h1, hE⟩ := hq
  exact ⟨e, ed, vs, rfl, X 44 _ rfl, he, h1, hE⟩
section
theorem words_22 : True := by
  k_with_none
  k_with "own k_all" => (assumption)
  k_with "my subscriptTail Name Constant ref int" => (k_here; (with_reducible show wpAny _ _ (subscriptTail _ _ (Value.ref _) (Value.int _ _)) _ _ _); (with_unfolding_all refine' item_litK ?k1 ?k2 ?k3 ?k4 ?_ ?k6; (case k1 => is_list); (case k2 => decide); (case k3 => decide); (case k4 => rfl); (case k6 => with_unfolding_all rfl); k_whole))
  k_with "my take asks" => ( (case k2 => k_asm); (case k1 => k_asm); (case k3 => k_asm); (case k5 => k_asm); (case kK => first | exact rfl | assumption); (case kr => k_all); (case kx => assumption); (case ky => assumption); (case ky2 => assumption); (case kt => first | decide | omega); (case kt2 => first | decide | omega); (case kd => ktr_room); (case ku => ktr_units); intro _ _ _ _ _ _ _ _ _ _ N' _ _ _ _ _; (try simp only [List.nil_append, List.cons_append] at N'); (try dsimp only); (try k_fold); (have N' := True.intro))
  k_with "my call ref" => (k_here; (with_reducible show wpAny _ _ (call (Value.ref 124) _) _ _ _); k_dflt (first | (refine' take_call (pre := []) ?k1 ?k2 ?k3 ?k4 ?k5 ?kK ?kr ?kx ?ky ?ky2 ?kt ?kt2 ?kd ?ku ?_; (case k4 => assumption); walk_at "take asks") | (refine' take_call (pre := [_]) ?k1 ?k2 ?k3 ?k4 ?k5 ?kK ?kr ?kx ?ky ?ky2 ?kt ?kt2 ?kd ?ku ?_; (case k4 => assumption); walk_at "take asks") | (refine' take_call (pre := [_, _]) ?k1 ?k2 ?k3 ?k4 ?k5 ?kK ?kr ?kx ?ky ?ky2 ?kt ?kt2 ?kd ?ku ?_; (case k4 => assumption); walk_at "take asks") | (refine' take_call (pre := [_, _, _]) ?k1 ?k2 ?k3 ?k4 ?k5 ?kK ?kr ?kx ?ky ?ky2 ?kt ?kt2 ?kd ?ku ?_; (case k4 => assumption); walk_at "take asks") | (refine' take_call (pre := [_, _, _, _]) ?k1 ?k2 ?k3 ?k4 ?k5 ?kK ?kr ?kx ?ky ?ky2 ?kt ?kt2 ?kd ?ku ?_; (case k4 => assumption); walk_at "take asks") | (refine' take_call (pre := [_, _, _, _, _]) ?k1 ?k2 ?k3 ?k4 ?k5 ?kK ?kr ?kx ?ky ?ky2 ?kt ?kt2 ?kd ?ku ?_; (case k4 => assumption); walk_at "take asks") | (refine' take_call (pre := [_, _, _, _, _, _]) ?k1 ?k2 ?k3 ?k4 ?k5 ?kK ?kr ?kx ?ky ?ky2 ?kt ?kt2 ?kd ?ku ?_; (case k4 => assumption); walk_at "take asks")))
  k_with "own k_all" => (first | assumption | exact lt_ne0 (by assumption) (by omega) | exact lt_ne1 (by assumption) (by omega) | exact lt_ne2 (by assumption) (by omega) | exact lt_ne3 (by assumption) (by omega))
  k_with "my enter C" => (refine' code_defC ?k1 ?k2 ?k3 ?k4 ?k5 ?kA ?kF ?kK ?k6 ?k7 ?k8 ?k9 ?kB ?kD ?_ ?c2 ?c3 ?c4; (case kA => exact rfl); (case kF => exact rfl); (case kK => assumption); (case k1 => k_asm); (case k2 => k_asm); (case k3 => k_asm); (case k4 => k_asm); (case k5 => k_asm); (case k6 => k_is); (case k7 => k_is); (case k8 => ktr_room); (case k9 => exact BindsTo.of_eq rfl); (case kB => exact rfl); (case kD => decide +kernel); (case c2 => exact rfl); (case c3 => exact rfl); (case c4 => exact rfl); k_whole; intro _ _ _ _ _ _ _ N' Y' B' _ _ l1; (have l2 := l1); (try k_lt l1); k_cells Y'; (try simp only [List.cons_append, List.nil_append] at N'); (try dsimp only); (try k_lift B'); (try k_fold); (have N' := True.intro); (have Y' := True.intro); (have B' := True.intro); (have l1 := True.intro); (have l2 := True.intro))
  k_with "my subscriptTail" => (k_here; (with_reducible show wpAny _ _ (subscriptTail (PySem.Expr.List _ _) _ (Value.ref _) (Value.int _ _)) _ _ _); (with_unfolding_all (first | (refine' item_menuB 1 65535 ?k1 ?k2 ?k3 ?k4 ?k5 ?kb ?_; (case k1 => is_list); (case k2 => l_ints); (case kb => decide); (case k3 => l_idx); (case k4 => l_idx); (case k5 => l_idx); k_whole) | (refine' item_menuB (-7) 130 ?k1 ?k2 ?k3 ?k4 ?k5 ?kb ?_; (case k1 => is_list); (case k2 => l_ints); (case kb => decide); (case k3 => l_idx); (case k4 => l_idx); (case k5 => l_idx); k_whole))); intro _ _ _ _)
  k_with "my eval ListComp" => (k_here; k_dflt (refine LCg.ListComp_U (F₀ := by k_asm) (by with_unfolding_all rfl) (by decide) (by rfl) (by decide) (by rfl) ?_))
  k_with "my CompSrc" => (k_here; k_dflt (refine LCg.CompSrc.range (by rfl) (by k_asm) (by k_asm) (by assumption) (by first | exact small_one (by kcf_bnd) (by kcf_bnd) (by kcf_bnd) (by kcf_bnd) | decide) (by first | exact rangeSize_nat _ _ | rfl) (by first | (rw [PySem.sizeLine_eq]; omega) | (rw [PySem.sizeLine_eq]; (simp only [List.size_toArray]); omega) | size_fits) ?_; intro _))
  k_with "my CompRest" => (fail "mine")
  k_with "my compareOp Eq ref ref" => (k_here; k_dflt (first | (refine' tup_eq ?k1 ?k2 ?k3 ?k4 ?k5 ?_; (case k1 => exact News.isTup (by k_asm) (by k_mem)); (case k2 => exact News.isTup (by k_asm) (by k_mem)); (case k3 => l_ints); (case k4 => l_ints); (case k5 => ktr_units); k_whole) | (refine' eq_intsK ?k1 ?k2 ?k3 ?k4 ?k5 ?_; (case k1 => is_list); (case k2 => l_ints); (case k3 => is_list); (case k4 => l_ints); (case k5 => ktr_units); k_whole)))
  k_with "my compareOp NotEq ref ref" => (k_here; k_dflt (first | (refine' tup_ne ?k1 ?k2 ?k3 ?k4 ?k5 ?_; (case k1 => exact News.isTup (by k_asm) (by k_mem)); (case k2 => exact News.isTup (by k_asm) (by k_mem)); (case k3 => l_ints); (case k4 => l_ints); (case k5 => ktr_units); k_whole) | (refine' ne_intsK ?k1 ?k2 ?k3 ?k4 ?k5 ?_; (case k1 => is_list); (case k2 => l_ints); (case k3 => is_list); (case k4 => l_ints); (case k5 => ktr_units); k_whole)))
  k_with "my call type:tuple" => (k_here; (with_reducible show wpAny _ _ (call (Value.type _) [Value.ref _]) _ _ _); k_dflt (refine' call_tuple_tup ?k1 ?_; (case k1 => exact News.isTup (by k_asm) (by k_mem)); k_whole))
  k_with "my call builtin:len" => (k_here; (with_reducible show wpAny _ _ (call (Value.builtin "len") [Value.ref _]) _ _ _); k_dflt (refine' len_tupI ?k1 ?k2 ?k3 ?_; (case k1 => exact News.isTup (by k_asm) (by k_mem)); (case k2 => l_ints); (case k3 => omega); k_whole))
  k_with "my subscriptTail" => (k_here; (with_reducible show wpAny _ _ (subscriptTail (PySem.Expr.List _ _) _ (Value.ref _) (Value.int _ _)) _ _ _); (with_unfolding_all (first | (refine' item_menuB 1 8 ?k1 ?k2 ?k3 ?k4 ?k5 ?kb ?_; (case k1 => is_list); (case k2 => l_ints); (case kb => decide); (case k3 => l_idx); (case k4 => l_idx); (case k5 => l_idx); k_whole) | (refine' item_menuB 1 9 ?k1 ?k2 ?k3 ?k4 ?k5 ?kb ?_; (case k1 => is_list); (case k2 => l_ints); (case kb => decide); (case k3 => l_idx); (case k4 => l_idx); (case k5 => l_idx); k_whole) | (refine' item_menuB 1 65535 ?k1 ?k2 ?k3 ?k4 ?k5 ?kb ?_; (case k1 => is_list); (case k2 => l_ints); (case kb => decide); (case k3 => l_idx); (case k4 => l_idx); (case k5 => l_idx); k_whole) | (refine' item_menuB (-7) 130 ?k1 ?k2 ?k3 ?k4 ?k5 ?kb ?_; (case k1 => is_list); (case k2 => l_ints); (case kb => decide); (case k3 => l_idx); (case k4 => l_idx); (case k5 => l_idx); k_whole))); intro _ _ _ _)
  k_with "my exec Raise some none" => (k_here; k_dflt (refine Raise_44 (by rfl) ?_))
  k_with "my call ref" => (k_here; (with_reducible show wpAny _ _ (call (Value.ref 44) _) _ _ _); refine Stop.mk ?_)
  k_with "my exec For Name Name cons nil" => (k_here; (rename Fr _ _ _ _ => lF'); (with_unfolding_all refine' For_invVF lF' ?k1 ?k2 ?_; (case k1 => exact rfl); (case k2 => exact rfl); k_whole))
  k_with "my pyIter ref" => (k_here; (with_reducible show wpAny _ _ (pyIter (Value.ref _)) (fun it s₂ => LoopAtV _ _ _ _ _ _ _ _ _ it s₂) _ _); refine Stop.mk ?_)
  k_with "my InvEnd" => (refine Stop.mk ?_)
  trivial
set_option maxRecDepth 100000 in
set_option maxHeartbeats 8000000 in
theorem chk_bad {w : World} {p : Program} {loose : List Str} {mean : ExcName → Option Value} {mg mb : Str → Option Value}
    {dp un : Nat} {gd : Option (List Code)} {cn : Str} {cs : Scope} {a : Addr} {ccd : Value} {cl : List (Str × Addr)} {outer : List Env} {A₀ : Around} {base h₀ : Heap} {L : Addr} {m : Str → Option Value} {s : Shared} {Q E : Value → Shared → Prop}
    {qt : Addr} {qvs : List Value} {qs : List Int} {tn tm : Tok} {news : List (Addr × Obj)}
    (B : Below A₀ base outer h₀) (F : Fr h₀ L s.heap m) (X : (Mine.hd.heap_39 w.params).In h₀) (N : News h₀ L s.heap news) (m1 : (qt, tupOf qvs) ∈ news) (T : Top p loose mean mg mb h₀)
    (hk : cs.kind = .function) (hI : IntsAre qvs qs) (hl : qs.length ≤ 5) (hbad : qs.length ≠ 4 ∨ ∃ v ∈ qs, ¬ (1 ≤ v ∧ v ≤ 255)) (hd : dp + 20 < recursionLimit) (hu : un + 200 < cLine)
    (exc : ∀ G e t S ts h' tk', Fr h₀ L G m → RaisedS base G (envX cn cs L a ccd cl :: outer) e (.ref 44) t [.str S ts] news h' → G.UpToSlots h' → E (.ref e) { s with heap := h', toks := tk' }) :
    wpAny (model PySem.Challenge.rw_nt0538_01.row.prog w) (ktrTop dp un gd cn cs L a ccd cl outer) (call (.ref 72) [.ref qt, .int 2 tn, .int 255 tm]) Q E s := by
  have hvl := hI.length
  revert X; k_fill; intro X
  refine wpAny_call ?_
  k_dflt cell_enter
  k_steps
  · unfold Stop
    (rename Fr _ _ _ _ => F1)
    (rename News _ _ _ _ => N1)
    (rename Below _ _ _ _ => B1)
    (rename Frag.In _ _ => X1)
    (rename Top _ _ _ _ _ _ => T1)
    refine taberr_ok B1 F1 X1 N1 T1 ?kk ?kd ?ku (fun e t d h' tk' F' N' hlt hne => ⟨e, some d, _, rfl, X1.keeps F'.keep, (N' _ (.head _)).1, rfl, ?_⟩)
    case kk => first | exact rfl | assumption
    case kd => ktr_room
    case ku => ktr_units
    refine leave_raiseT (news := news) (n := 0) B1 F' N' (.head _) (.tail _ (.head _)) (fun q hq => ⟨.tail _ (.tail _ hq), ?_, ?_⟩) rfl rfl rfl rfl rfl rfl (fun h2 R1 R2 U => ?_)
    · exact Nat.ne_of_lt (hlt q hq).1
    · exact Nat.ne_of_lt (hlt q hq).2
    · exact exc _ _ _ _ _ _ _ (by assumption) R1 U
  · unfold Stop
    (rename News _ _ _ _ => N9)
    (rename Fr _ _ _ _ => F9)
    refine iter_tupJ (PrJ [Str.ofString "one"] _ (fun v => 1 ≤ v ∧ v ≤ 255) qs) (by rfl) m1 hI F9 N9 ⟨MapBut.self, fun _ h => nomatch h⟩ ?turn ?done
    case turn =>
      rintro i k u m₁ h tk own hk9 ⟨⟨u9, rfl⟩, hp⟩ F' N'
      (try k_fold)
      k_steps
      · unfold Stop
        refine InvEnd.intro (by k_asm) (by k_asm) (fun _ h => h) (PrJ.succ ?_ hk9 hp (by omega))
        intro y hy
        have h1 : y ≠ Str.ofString "one" := by rintro rfl; exact absurd hy (by decide)
        simp only [h1, if_false, hy, Bool.false_eq_true]
      all_goals
        unfold Stop
        (rename Fr _ _ _ _ => F1)
        (rename News _ _ _ _ => N1)
        (rename Below _ _ _ _ => B1)
        (rename Frag.In _ _ => X1)
        (rename Top _ _ _ _ _ _ => T1)
        refine taberr_ok B1 F1 X1 N1 T1 ?_ ?_ ?_ (fun e t d h' tk' F' N' hlt hne => ⟨e, some d, _, rfl, X1.keeps F'.keep, (N' _ (.head _)).1, rfl, ?_⟩)
        · first | exact rfl | assumption
        · ktr_room
        · ktr_units
        · refine leave_raiseT (news := news) (n := 0) B1 F' N' (.head _) (.tail _ (.head _)) (fun q hq => ⟨.tail _ (.tail _ (List.mem_append_right _ hq)), ?_, ?_⟩) rfl rfl rfl rfl rfl rfl (fun h2 R1 R2 U => ?_)
          · exact Nat.ne_of_lt (hlt q (List.mem_append_right _ hq)).1
          · exact Nat.ne_of_lt (hlt q (List.mem_append_right _ hq)).2
          · exact exc _ _ _ _ _ _ _ (by assumption) R1 U
    case done =>
      rintro m₁ h tk hJ F' N'
      have hp := hJ.all
      exfalso
      rcases hbad with hb | ⟨v, hv, hb⟩
      · apply hb
        first
          | omega
          | (simp only [bne_iff_ne, ne_eq, decide_eq_true_eq] at *; omega)
      · exact hb (hp v hv)
end
end
section
-- N2
section
open PySem.Calls
theorem words_23 : True := by
  k_with_none
  k_with "own k_all" => (assumption)
  k_with "my subscriptTail Name Constant ref int" => (k_here; (with_reducible show wpAny _ _ (subscriptTail _ _ (Value.ref _) (Value.int _ _)) _ _ _); (with_unfolding_all refine' item_litK ?k1 ?k2 ?k3 ?k4 ?_ ?k6; (case k1 => is_list); (case k2 => decide); (case k3 => decide); (case k4 => rfl); (case k6 => with_unfolding_all rfl); k_whole))
  k_with "my take asks" => ( (case k2 => k_asm); (case k1 => k_asm); (case k3 => k_asm); (case k5 => k_asm); (case kK => first | exact rfl | assumption); (case kr => k_all); (case kx => assumption); (case ky => assumption); (case ky2 => assumption); (case kt => first | decide | omega); (case kt2 => first | decide | omega); (case kd => ktr_room); (case ku => ktr_units); intro _ _ _ _ _ _ _ _ _ _ N' _ _ _ _ _; (try simp only [List.nil_append, List.cons_append] at N'); (try dsimp only); (try k_fold); (have N' := True.intro))
  k_with "my call ref" => (k_here; (with_reducible show wpAny _ _ (call (Value.ref 124) _) _ _ _); k_dflt (first | (refine' take_call (pre := []) ?k1 ?k2 ?k3 ?k4 ?k5 ?kK ?kr ?kx ?ky ?ky2 ?kt ?kt2 ?kd ?ku ?_; (case k4 => assumption); walk_at "take asks") | (refine' take_call (pre := [_]) ?k1 ?k2 ?k3 ?k4 ?k5 ?kK ?kr ?kx ?ky ?ky2 ?kt ?kt2 ?kd ?ku ?_; (case k4 => assumption); walk_at "take asks") | (refine' take_call (pre := [_, _]) ?k1 ?k2 ?k3 ?k4 ?k5 ?kK ?kr ?kx ?ky ?ky2 ?kt ?kt2 ?kd ?ku ?_; (case k4 => assumption); walk_at "take asks") | (refine' take_call (pre := [_, _, _]) ?k1 ?k2 ?k3 ?k4 ?k5 ?kK ?kr ?kx ?ky ?ky2 ?kt ?kt2 ?kd ?ku ?_; (case k4 => assumption); walk_at "take asks") | (refine' take_call (pre := [_, _, _, _]) ?k1 ?k2 ?k3 ?k4 ?k5 ?kK ?kr ?kx ?ky ?ky2 ?kt ?kt2 ?kd ?ku ?_; (case k4 => assumption); walk_at "take asks") | (refine' take_call (pre := [_, _, _, _, _]) ?k1 ?k2 ?k3 ?k4 ?k5 ?kK ?kr ?kx ?ky ?ky2 ?kt ?kt2 ?kd ?ku ?_; (case k4 => assumption); walk_at "take asks") | (refine' take_call (pre := [_, _, _, _, _, _]) ?k1 ?k2 ?k3 ?k4 ?k5 ?kK ?kr ?kx ?ky ?ky2 ?kt ?kt2 ?kd ?ku ?_; (case k4 => assumption); walk_at "take asks")))
  k_with "own k_all" => (first | assumption | exact lt_ne0 (by assumption) (by omega) | exact lt_ne1 (by assumption) (by omega) | exact lt_ne2 (by assumption) (by omega) | exact lt_ne3 (by assumption) (by omega))
  k_with "my enter C" => (refine' code_defC ?k1 ?k2 ?k3 ?k4 ?k5 ?kA ?kF ?kK ?k6 ?k7 ?k8 ?k9 ?kB ?kD ?_ ?c2 ?c3 ?c4; (case kA => exact rfl); (case kF => exact rfl); (case kK => assumption); (case k1 => k_asm); (case k2 => k_asm); (case k3 => k_asm); (case k4 => k_asm); (case k5 => k_asm); (case k6 => k_is); (case k7 => k_is); (case k8 => ktr_room); (case k9 => exact BindsTo.of_eq rfl); (case kB => exact rfl); (case kD => decide +kernel); (case c2 => exact rfl); (case c3 => exact rfl); (case c4 => exact rfl); k_whole; intro _ _ _ _ _ _ _ N' Y' B' _ _ l1; (have l2 := l1); (try k_lt l1); k_cells Y'; (try simp only [List.cons_append, List.nil_append] at N'); (try dsimp only); (try k_lift B'); (try k_fold); (have N' := True.intro); (have Y' := True.intro); (have B' := True.intro); (have l1 := True.intro); (have l2 := True.intro))
  k_with "my subscriptTail" => (k_here; (with_reducible show wpAny _ _ (subscriptTail (PySem.Expr.List _ _) _ (Value.ref _) (Value.int _ _)) _ _ _); (with_unfolding_all (first | (refine' item_menuB 1 65535 ?k1 ?k2 ?k3 ?k4 ?k5 ?kb ?_; (case k1 => is_list); (case k2 => l_ints); (case kb => decide); (case k3 => l_idx); (case k4 => l_idx); (case k5 => l_idx); k_whole) | (refine' item_menuB (-7) 130 ?k1 ?k2 ?k3 ?k4 ?k5 ?kb ?_; (case k1 => is_list); (case k2 => l_ints); (case kb => decide); (case k3 => l_idx); (case k4 => l_idx); (case k5 => l_idx); k_whole))); intro _ _ _ _)
  k_with "my eval ListComp" => (k_here; k_dflt (refine LCg.ListComp_U (F₀ := by k_asm) (by with_unfolding_all rfl) (by decide) (by rfl) (by decide) (by rfl) ?_))
  k_with "my CompSrc" => (k_here; k_dflt (refine LCg.CompSrc.range (by rfl) (by k_asm) (by k_asm) (by assumption) (by first | exact small_one (by kcf_bnd) (by kcf_bnd) (by kcf_bnd) (by kcf_bnd) | decide) (by first | exact rangeSize_nat _ _ | rfl) (by first | (rw [PySem.sizeLine_eq]; omega) | (rw [PySem.sizeLine_eq]; (simp only [List.size_toArray]); omega) | size_fits) ?_; intro _))
  k_with "my CompRest" => (fail "mine")
  k_with "my compareOp Eq ref ref" => (k_here; k_dflt (first | (refine' tup_eq ?k1 ?k2 ?k3 ?k4 ?k5 ?_; (case k1 => exact News.isTup (by k_asm) (by k_mem)); (case k2 => exact News.isTup (by k_asm) (by k_mem)); (case k3 => l_ints); (case k4 => l_ints); (case k5 => ktr_units); k_whole) | (refine' eq_intsK ?k1 ?k2 ?k3 ?k4 ?k5 ?_; (case k1 => is_list); (case k2 => l_ints); (case k3 => is_list); (case k4 => l_ints); (case k5 => ktr_units); k_whole)))
  k_with "my compareOp NotEq ref ref" => (k_here; k_dflt (first | (refine' tup_ne ?k1 ?k2 ?k3 ?k4 ?k5 ?_; (case k1 => exact News.isTup (by k_asm) (by k_mem)); (case k2 => exact News.isTup (by k_asm) (by k_mem)); (case k3 => l_ints); (case k4 => l_ints); (case k5 => ktr_units); k_whole) | (refine' ne_intsK ?k1 ?k2 ?k3 ?k4 ?k5 ?_; (case k1 => is_list); (case k2 => l_ints); (case k3 => is_list); (case k4 => l_ints); (case k5 => ktr_units); k_whole)))
  k_with "my call type:tuple" => (k_here; (with_reducible show wpAny _ _ (call (Value.type _) [Value.ref _]) _ _ _); k_dflt (refine' call_tuple_tup ?k1 ?_; (case k1 => exact News.isTup (by k_asm) (by k_mem)); k_whole))
  k_with "my call builtin:len" => (k_here; (with_reducible show wpAny _ _ (call (Value.builtin "len") [Value.ref _]) _ _ _); k_dflt (refine' len_tupI ?k1 ?k2 ?k3 ?_; (case k1 => exact News.isTup (by k_asm) (by k_mem)); (case k2 => l_ints); (case k3 => omega); k_whole))
  k_with "my subscriptTail" => (k_here; (with_reducible show wpAny _ _ (subscriptTail (PySem.Expr.List _ _) _ (Value.ref _) (Value.int _ _)) _ _ _); (with_unfolding_all (first | (refine' item_menuB 1 8 ?k1 ?k2 ?k3 ?k4 ?k5 ?kb ?_; (case k1 => is_list); (case k2 => l_ints); (case kb => decide); (case k3 => l_idx); (case k4 => l_idx); (case k5 => l_idx); k_whole) | (refine' item_menuB 1 9 ?k1 ?k2 ?k3 ?k4 ?k5 ?kb ?_; (case k1 => is_list); (case k2 => l_ints); (case kb => decide); (case k3 => l_idx); (case k4 => l_idx); (case k5 => l_idx); k_whole) | (refine' item_menuB 1 65535 ?k1 ?k2 ?k3 ?k4 ?k5 ?kb ?_; (case k1 => is_list); (case k2 => l_ints); (case kb => decide); (case k3 => l_idx); (case k4 => l_idx); (case k5 => l_idx); k_whole) | (refine' item_menuB (-7) 130 ?k1 ?k2 ?k3 ?k4 ?k5 ?kb ?_; (case k1 => is_list); (case k2 => l_ints); (case kb => decide); (case k3 => l_idx); (case k4 => l_idx); (case k5 => l_idx); k_whole))); intro _ _ _ _)
  k_with "my enter T" => (refine' code_defT ?k1 ?k2 ?k3 ?k4 ?k5 ?XB ?TB ?D ?kA ?kF ?kK ?k6 ?k7 ?k8 ?k9 ?kB ?_ ?c2 ?c3 ?c4 ?c5; (case kA => exact rfl); (case kF => exact rfl); (case kK => assumption); (case k2 => k_asm); (case k1 => k_asm); (case XB => assumption); (case TB => assumption); (case D => assumption); (case k3 => k_asm); (case k4 => k_asm); (case k5 => k_asm); (case k6 => k_is); (case k7 => k_is); (case k8 => ktr_room); (case k9 => exact BindsTo.of_eq rfl); (case kB => exact locs rfl); (case c2 => exact rfl); (case c3 => exact rfl); (case c4 => exact rfl); (case c5 => decide); k_whole; intro _ _ _ _ _ _ B' _ _ _; (try dsimp only); (try k_lift B'); (try k_fold); (have B' := True.intro))
  k_with "my call ref" => (k_here; (with_reducible show wpAny _ _ (call (Value.ref 72) _) _ _ _); refine Stop.mk ?_)
  trivial
set_option maxRecDepth 100000 in
set_option maxHeartbeats 8000000 in
theorem ref_yes {w : World} {p : Program} {loose : List Str} {mean : ExcName → Option Value} {mg mb : Str → Option Value}
    {dp un : Nat} {gd : Option (List Code)} {cn : Str} {cs : Scope} {a : Addr} {ccd : Value} {cl : List (Str × Addr)} {outer : List Env} {A₀ : Around} {base h₀ : Heap} {L : Addr} {m : Str → Option Value} {s : Shared} {Q E : Value → Shared → Prop}
    {qt : Addr} {qvs : List Value} {qs : List Int} {tn tm : Tok} {news : List (Addr × Obj)}
    (XB : (Mine.hd.heap_39 w.params).In base) (TB : Top p loose mean mg mb base) (D : KtsDicts (outer.filterMap (·.frame)) h₀)
    (B : Below A₀ base outer h₀) (F : Fr h₀ L s.heap m) (X : (Mine.hd.heap_39 w.params).In h₀) (N : News h₀ L s.heap news) (m1 : (qt, tupOf qvs) ∈ news) (T : Top p loose mean mg mb h₀)
    (hk : cs.kind = .function) (hI : IntsAre qvs qs) (hl : qs.length ≤ 5) (hbad : qs.length ≠ 4 ∨ ∃ v ∈ qs, ¬ (1 ≤ v ∧ v ≤ 255)) (hd : dp + 30 < recursionLimit) (hu : un + 400 < cLine)
    (ret : ∀ h₀' h' tk', KtsTurn (outer.filterMap (·.frame)) h₀ h₀' → Fr h₀' L h' m → News h₀' L h' news → Below A₀ base outer h₀' → (Mine.hd.heap_39 w.params).In h₀' → Top p loose mean mg mb h₀' → KtsDicts (outer.filterMap (·.frame)) h₀' → Q (.bool true) { s with heap := h', toks := tk' }) :
    wpAny (model PySem.Challenge.rw_nt0538_01.row.prog w) (ktrTop dp un gd cn cs L a ccd cl outer) (call (.ref 160) [.ref qt, .int 2 tn, .int 255 tm]) Q E s := by
  have hvl := hI.length
  revert X; k_fill; intro X
  refine wpAny_call ?_
  k_dflt (walk_at "enter T")
  k_steps
  unfold Stop
  (rename Fr _ _ _ _ => F1)
  (rename News _ _ _ _ => N1)
  (rename Below _ _ _ _ => B1)
  (rename Frag.In _ _ => X1)
  (rename Top _ _ _ _ _ _ => T1)
  (rename KtsDicts _ _ => D1)
  refine chk_bad (cl := []) (qs := qs) (news := news) B1 F1 X1 N1 m1 T1 ?kk hI hl hbad ?kd ?ku ?ex
  case kk => first | exact rfl | assumption
  case kd => ktr_room
  case ku => ktr_units
  case ex =>
    intro G e t S ts h' tk' FG R U
    refine caught_SO0 R FG B1 U XB TB D1 KtsTurn.refl ?ey ?q ?k
    case ey => rfl
    case q => rfl
    case k =>
      clear N1 F1
      intro h5 g5 n5 T5 F5 N5 G5 N6 B5 X5 P5 D5
      k_steps
      dsimp only
      exact ⟨g5, _, _, _, T5, F5, N6, fun h₀' Tk F7 N7 B7 X7 T7 D7 => ret h₀' _ _ Tk F7 N7 B7 X7 T7 D7⟩
end
end
section
-- N3
section
open PySem.Calls
theorem words_24 : True := by
  k_with_none
  k_with "own k_all" => (assumption)
  k_with "my subscriptTail Name Constant ref int" => (k_here; (with_reducible show wpAny _ _ (subscriptTail _ _ (Value.ref _) (Value.int _ _)) _ _ _); (with_unfolding_all refine' item_litK ?k1 ?k2 ?k3 ?k4 ?_ ?k6; (case k1 => is_list); (case k2 => decide); (case k3 => decide); (case k4 => rfl); (case k6 => with_unfolding_all rfl); k_whole))
  k_with "my take asks" => ( (case k2 => k_asm); (case k1 => k_asm); (case k3 => k_asm); (case k5 => k_asm); (case kK => first | exact rfl | assumption); (case kr => k_all); (case kx => assumption); (case ky => assumption); (case ky2 => assumption); (case kt => first | decide | omega); (case kt2 => first | decide | omega); (case kd => ktr_room); (case ku => ktr_units); intro _ _ _ _ _ _ _ _ _ _ N' _ _ _ _ _; (try simp only [List.nil_append, List.cons_append] at N'); (try dsimp only); (try k_fold); (have N' := True.intro))
  k_with "my call ref" => (k_here; (with_reducible show wpAny _ _ (call (Value.ref 124) _) _ _ _); k_dflt (first | (refine' take_call (pre := []) ?k1 ?k2 ?k3 ?k4 ?k5 ?kK ?kr ?kx ?ky ?ky2 ?kt ?kt2 ?kd ?ku ?_; (case k4 => assumption); walk_at "take asks") | (refine' take_call (pre := [_]) ?k1 ?k2 ?k3 ?k4 ?k5 ?kK ?kr ?kx ?ky ?ky2 ?kt ?kt2 ?kd ?ku ?_; (case k4 => assumption); walk_at "take asks") | (refine' take_call (pre := [_, _]) ?k1 ?k2 ?k3 ?k4 ?k5 ?kK ?kr ?kx ?ky ?ky2 ?kt ?kt2 ?kd ?ku ?_; (case k4 => assumption); walk_at "take asks") | (refine' take_call (pre := [_, _, _]) ?k1 ?k2 ?k3 ?k4 ?k5 ?kK ?kr ?kx ?ky ?ky2 ?kt ?kt2 ?kd ?ku ?_; (case k4 => assumption); walk_at "take asks") | (refine' take_call (pre := [_, _, _, _]) ?k1 ?k2 ?k3 ?k4 ?k5 ?kK ?kr ?kx ?ky ?ky2 ?kt ?kt2 ?kd ?ku ?_; (case k4 => assumption); walk_at "take asks") | (refine' take_call (pre := [_, _, _, _, _]) ?k1 ?k2 ?k3 ?k4 ?k5 ?kK ?kr ?kx ?ky ?ky2 ?kt ?kt2 ?kd ?ku ?_; (case k4 => assumption); walk_at "take asks") | (refine' take_call (pre := [_, _, _, _, _, _]) ?k1 ?k2 ?k3 ?k4 ?k5 ?kK ?kr ?kx ?ky ?ky2 ?kt ?kt2 ?kd ?ku ?_; (case k4 => assumption); walk_at "take asks")))
  k_with "own k_all" => (first | assumption | exact lt_ne0 (by assumption) (by omega) | exact lt_ne1 (by assumption) (by omega) | exact lt_ne2 (by assumption) (by omega) | exact lt_ne3 (by assumption) (by omega))
  k_with "my enter C" => (refine' code_defC ?k1 ?k2 ?k3 ?k4 ?k5 ?kA ?kF ?kK ?k6 ?k7 ?k8 ?k9 ?kB ?kD ?_ ?c2 ?c3 ?c4; (case kA => exact rfl); (case kF => exact rfl); (case kK => assumption); (case k1 => k_asm); (case k2 => k_asm); (case k3 => k_asm); (case k4 => k_asm); (case k5 => k_asm); (case k6 => k_is); (case k7 => k_is); (case k8 => ktr_room); (case k9 => exact BindsTo.of_eq rfl); (case kB => exact rfl); (case kD => decide +kernel); (case c2 => exact rfl); (case c3 => exact rfl); (case c4 => exact rfl); k_whole; intro _ _ _ _ _ _ _ N' Y' B' _ _ l1; (have l2 := l1); (try k_lt l1); k_cells Y'; (try simp only [List.cons_append, List.nil_append] at N'); (try dsimp only); (try k_lift B'); (try k_fold); (have N' := True.intro); (have Y' := True.intro); (have B' := True.intro); (have l1 := True.intro); (have l2 := True.intro))
  k_with "my subscriptTail" => (k_here; (with_reducible show wpAny _ _ (subscriptTail (PySem.Expr.List _ _) _ (Value.ref _) (Value.int _ _)) _ _ _); (with_unfolding_all (first | (refine' item_menuB 1 65535 ?k1 ?k2 ?k3 ?k4 ?k5 ?kb ?_; (case k1 => is_list); (case k2 => l_ints); (case kb => decide); (case k3 => l_idx); (case k4 => l_idx); (case k5 => l_idx); k_whole) | (refine' item_menuB (-7) 130 ?k1 ?k2 ?k3 ?k4 ?k5 ?kb ?_; (case k1 => is_list); (case k2 => l_ints); (case kb => decide); (case k3 => l_idx); (case k4 => l_idx); (case k5 => l_idx); k_whole))); intro _ _ _ _)
  k_with "my eval ListComp" => (k_here; k_dflt (refine LCg.ListComp_U (F₀ := by k_asm) (by with_unfolding_all rfl) (by decide) (by rfl) (by decide) (by rfl) ?_))
  k_with "my CompSrc" => (k_here; k_dflt (refine LCg.CompSrc.range (by rfl) (by k_asm) (by k_asm) (by assumption) (by first | exact small_one (by kcf_bnd) (by kcf_bnd) (by kcf_bnd) (by kcf_bnd) | decide) (by first | exact rangeSize_nat _ _ | rfl) (by first | (rw [PySem.sizeLine_eq]; omega) | (rw [PySem.sizeLine_eq]; (simp only [List.size_toArray]); omega) | size_fits) ?_; intro _))
  k_with "my CompRest" => (fail "mine")
  k_with "my compareOp Eq ref ref" => (k_here; k_dflt (first | (refine' tup_eq ?k1 ?k2 ?k3 ?k4 ?k5 ?_; (case k1 => exact News.isTup (by k_asm) (by k_mem)); (case k2 => exact News.isTup (by k_asm) (by k_mem)); (case k3 => l_ints); (case k4 => l_ints); (case k5 => ktr_units); k_whole) | (refine' eq_intsK ?k1 ?k2 ?k3 ?k4 ?k5 ?_; (case k1 => is_list); (case k2 => l_ints); (case k3 => is_list); (case k4 => l_ints); (case k5 => ktr_units); k_whole)))
  k_with "my compareOp NotEq ref ref" => (k_here; k_dflt (first | (refine' tup_ne ?k1 ?k2 ?k3 ?k4 ?k5 ?_; (case k1 => exact News.isTup (by k_asm) (by k_mem)); (case k2 => exact News.isTup (by k_asm) (by k_mem)); (case k3 => l_ints); (case k4 => l_ints); (case k5 => ktr_units); k_whole) | (refine' ne_intsK ?k1 ?k2 ?k3 ?k4 ?k5 ?_; (case k1 => is_list); (case k2 => l_ints); (case k3 => is_list); (case k4 => l_ints); (case k5 => ktr_units); k_whole)))
  k_with "my call type:tuple" => (k_here; (with_reducible show wpAny _ _ (call (Value.type _) [Value.ref _]) _ _ _); k_dflt (refine' call_tuple_tup ?k1 ?_; (case k1 => exact News.isTup (by k_asm) (by k_mem)); k_whole))
  k_with "my call builtin:len" => (k_here; (with_reducible show wpAny _ _ (call (Value.builtin "len") [Value.ref _]) _ _ _); k_dflt (refine' len_tupI ?k1 ?k2 ?k3 ?_; (case k1 => exact News.isTup (by k_asm) (by k_mem)); (case k2 => l_ints); (case k3 => omega); k_whole))
  k_with "my subscriptTail" => (k_here; (with_reducible show wpAny _ _ (subscriptTail (PySem.Expr.List _ _) _ (Value.ref _) (Value.int _ _)) _ _ _); (with_unfolding_all (first | (refine' item_menuB 1 8 ?k1 ?k2 ?k3 ?k4 ?k5 ?kb ?_; (case k1 => is_list); (case k2 => l_ints); (case kb => decide); (case k3 => l_idx); (case k4 => l_idx); (case k5 => l_idx); k_whole) | (refine' item_menuB 1 9 ?k1 ?k2 ?k3 ?k4 ?k5 ?kb ?_; (case k1 => is_list); (case k2 => l_ints); (case kb => decide); (case k3 => l_idx); (case k4 => l_idx); (case k5 => l_idx); k_whole) | (refine' item_menuB 1 65535 ?k1 ?k2 ?k3 ?k4 ?k5 ?kb ?_; (case k1 => is_list); (case k2 => l_ints); (case kb => decide); (case k3 => l_idx); (case k4 => l_idx); (case k5 => l_idx); k_whole) | (refine' item_menuB (-7) 130 ?k1 ?k2 ?k3 ?k4 ?k5 ?kb ?_; (case k1 => is_list); (case k2 => l_ints); (case kb => decide); (case k3 => l_idx); (case k4 => l_idx); (case k5 => l_idx); k_whole))); intro _ _ _ _)
  trivial
theorem chk_call {w : World} {p : Program} {loose : List Str} {mean : ExcName → Option Value} {mg mb : Str → Option Value}
    {dp un : Nat} {gd : Option (List Code)} {cn : Str} {cs : Scope} {a : Addr} {ccd : Value} {cl : List (Str × Addr)} {outer : List Env} {A₀ : Around} {base h₀ : Heap} {L : Addr} {m : Str → Option Value} {s : Shared} {Q E : Value → Shared → Prop}
    {qt : Addr} {qvs : List Value} {qs : List Int} {most : Int} {tn tm : Tok} {news : List (Addr × Obj)}
    (B : Below A₀ base outer h₀) (F : Fr h₀ L s.heap m) (X : (Mine.hd.heap_39 w.params).In h₀) (N : News h₀ L s.heap news) (m1 : (qt, tupOf qvs) ∈ news) (T : Top p loose mean mg mb h₀)
    (hk : cs.kind = .function) (hI : IntsAre qvs qs) (hl : qs.length = 4) (hq : ∀ v ∈ qs, 1 ≤ v ∧ v ≤ most) (hd : dp + 8 < recursionLimit) (hu : un + 100 < cLine)
    (ret : ∀ h' tk', Fr h₀ L h' m → News h₀ L h' news → Q .none { s with heap := h', toks := tk' }) :
    wpAny (model PySem.Challenge.rw_nt0538_01.row.prog w) (ktrTop dp un gd cn cs L a ccd cl outer) (call (.ref 72) [.ref qt, .int 2 tn, .int most tm]) Q E s :=
  chk_ok B F X (pull1 N m1) T hk hI hl hq hd hu (fun h' tk' F' N' => ret h' tk' F' (cb_drop N' (by kcf_all)))
theorem words_25 : True := by
  k_with_none
  k_with "own k_all" => (assumption)
  k_with "my subscriptTail Name Constant ref int" => (k_here; (with_reducible show wpAny _ _ (subscriptTail _ _ (Value.ref _) (Value.int _ _)) _ _ _); (with_unfolding_all refine' item_litK ?k1 ?k2 ?k3 ?k4 ?_ ?k6; (case k1 => is_list); (case k2 => decide); (case k3 => decide); (case k4 => rfl); (case k6 => with_unfolding_all rfl); k_whole))
  k_with "my take asks" => ( (case k2 => k_asm); (case k1 => k_asm); (case k3 => k_asm); (case k5 => k_asm); (case kK => first | exact rfl | assumption); (case kr => k_all); (case kx => assumption); (case ky => assumption); (case ky2 => assumption); (case kt => first | decide | omega); (case kt2 => first | decide | omega); (case kd => ktr_room); (case ku => ktr_units); intro _ _ _ _ _ _ _ _ _ _ N' _ _ _ _ _; (try simp only [List.nil_append, List.cons_append] at N'); (try dsimp only); (try k_fold); (have N' := True.intro))
  k_with "my call ref" => (k_here; (with_reducible show wpAny _ _ (call (Value.ref 124) _) _ _ _); k_dflt (first | (refine' take_call (pre := []) ?k1 ?k2 ?k3 ?k4 ?k5 ?kK ?kr ?kx ?ky ?ky2 ?kt ?kt2 ?kd ?ku ?_; (case k4 => assumption); walk_at "take asks") | (refine' take_call (pre := [_]) ?k1 ?k2 ?k3 ?k4 ?k5 ?kK ?kr ?kx ?ky ?ky2 ?kt ?kt2 ?kd ?ku ?_; (case k4 => assumption); walk_at "take asks") | (refine' take_call (pre := [_, _]) ?k1 ?k2 ?k3 ?k4 ?k5 ?kK ?kr ?kx ?ky ?ky2 ?kt ?kt2 ?kd ?ku ?_; (case k4 => assumption); walk_at "take asks") | (refine' take_call (pre := [_, _, _]) ?k1 ?k2 ?k3 ?k4 ?k5 ?kK ?kr ?kx ?ky ?ky2 ?kt ?kt2 ?kd ?ku ?_; (case k4 => assumption); walk_at "take asks") | (refine' take_call (pre := [_, _, _, _]) ?k1 ?k2 ?k3 ?k4 ?k5 ?kK ?kr ?kx ?ky ?ky2 ?kt ?kt2 ?kd ?ku ?_; (case k4 => assumption); walk_at "take asks") | (refine' take_call (pre := [_, _, _, _, _]) ?k1 ?k2 ?k3 ?k4 ?k5 ?kK ?kr ?kx ?ky ?ky2 ?kt ?kt2 ?kd ?ku ?_; (case k4 => assumption); walk_at "take asks") | (refine' take_call (pre := [_, _, _, _, _, _]) ?k1 ?k2 ?k3 ?k4 ?k5 ?kK ?kr ?kx ?ky ?ky2 ?kt ?kt2 ?kd ?ku ?_; (case k4 => assumption); walk_at "take asks")))
  k_with "own k_all" => (first | assumption | exact lt_ne0 (by assumption) (by omega) | exact lt_ne1 (by assumption) (by omega) | exact lt_ne2 (by assumption) (by omega) | exact lt_ne3 (by assumption) (by omega))
  k_with "my enter C" => (refine' code_defC ?k1 ?k2 ?k3 ?k4 ?k5 ?kA ?kF ?kK ?k6 ?k7 ?k8 ?k9 ?kB ?kD ?_ ?c2 ?c3 ?c4; (case kA => exact rfl); (case kF => exact rfl); (case kK => assumption); (case k1 => k_asm); (case k2 => k_asm); (case k3 => k_asm); (case k4 => k_asm); (case k5 => k_asm); (case k6 => k_is); (case k7 => k_is); (case k8 => ktr_room); (case k9 => exact BindsTo.of_eq rfl); (case kB => exact rfl); (case kD => decide +kernel); (case c2 => exact rfl); (case c3 => exact rfl); (case c4 => exact rfl); k_whole; intro _ _ _ _ _ _ _ N' Y' B' _ _ l1; (have l2 := l1); (try k_lt l1); k_cells Y'; (try simp only [List.cons_append, List.nil_append] at N'); (try dsimp only); (try k_lift B'); (try k_fold); (have N' := True.intro); (have Y' := True.intro); (have B' := True.intro); (have l1 := True.intro); (have l2 := True.intro))
  k_with "my subscriptTail" => (k_here; (with_reducible show wpAny _ _ (subscriptTail (PySem.Expr.List _ _) _ (Value.ref _) (Value.int _ _)) _ _ _); (with_unfolding_all (first | (refine' item_menuB 1 65535 ?k1 ?k2 ?k3 ?k4 ?k5 ?kb ?_; (case k1 => is_list); (case k2 => l_ints); (case kb => decide); (case k3 => l_idx); (case k4 => l_idx); (case k5 => l_idx); k_whole) | (refine' item_menuB (-7) 130 ?k1 ?k2 ?k3 ?k4 ?k5 ?kb ?_; (case k1 => is_list); (case k2 => l_ints); (case kb => decide); (case k3 => l_idx); (case k4 => l_idx); (case k5 => l_idx); k_whole))); intro _ _ _ _)
  k_with "my eval ListComp" => (k_here; k_dflt (refine LCg.ListComp_U (F₀ := by k_asm) (by with_unfolding_all rfl) (by decide) (by rfl) (by decide) (by rfl) ?_))
  k_with "my CompSrc" => (k_here; k_dflt (refine LCg.CompSrc.range (by rfl) (by k_asm) (by k_asm) (by assumption) (by first | exact small_one (by kcf_bnd) (by kcf_bnd) (by kcf_bnd) (by kcf_bnd) | decide) (by first | exact rangeSize_nat _ _ | rfl) (by first | (rw [PySem.sizeLine_eq]; omega) | (rw [PySem.sizeLine_eq]; (simp only [List.size_toArray]); omega) | size_fits) ?_; intro _))
  k_with "my CompRest" => (fail "mine")
  k_with "my compareOp Eq ref ref" => (k_here; k_dflt (first | (refine' tup_eq ?k1 ?k2 ?k3 ?k4 ?k5 ?_; (case k1 => exact News.isTup (by k_asm) (by k_mem)); (case k2 => exact News.isTup (by k_asm) (by k_mem)); (case k3 => l_ints); (case k4 => l_ints); (case k5 => ktr_units); k_whole) | (refine' eq_intsK ?k1 ?k2 ?k3 ?k4 ?k5 ?_; (case k1 => is_list); (case k2 => l_ints); (case k3 => is_list); (case k4 => l_ints); (case k5 => ktr_units); k_whole)))
  k_with "my compareOp NotEq ref ref" => (k_here; k_dflt (first | (refine' tup_ne ?k1 ?k2 ?k3 ?k4 ?k5 ?_; (case k1 => exact News.isTup (by k_asm) (by k_mem)); (case k2 => exact News.isTup (by k_asm) (by k_mem)); (case k3 => l_ints); (case k4 => l_ints); (case k5 => ktr_units); k_whole) | (refine' ne_intsK ?k1 ?k2 ?k3 ?k4 ?k5 ?_; (case k1 => is_list); (case k2 => l_ints); (case k3 => is_list); (case k4 => l_ints); (case k5 => ktr_units); k_whole)))
  k_with "my call type:tuple" => (k_here; (with_reducible show wpAny _ _ (call (Value.type _) [Value.ref _]) _ _ _); k_dflt (refine' call_tuple_tup ?k1 ?_; (case k1 => exact News.isTup (by k_asm) (by k_mem)); k_whole))
  k_with "my call builtin:len" => (k_here; (with_reducible show wpAny _ _ (call (Value.builtin "len") [Value.ref _]) _ _ _); k_dflt (refine' len_tupI ?k1 ?k2 ?k3 ?_; (case k1 => exact News.isTup (by k_asm) (by k_mem)); (case k2 => l_ints); (case k3 => omega); k_whole))
  k_with "my subscriptTail" => (k_here; (with_reducible show wpAny _ _ (subscriptTail (PySem.Expr.List _ _) _ (Value.ref _) (Value.int _ _)) _ _ _); (with_unfolding_all (first | (refine' item_menuB 1 8 ?k1 ?k2 ?k3 ?k4 ?k5 ?kb ?_; (case k1 => is_list); (case k2 => l_ints); (case kb => decide); (case k3 => l_idx); (case k4 => l_idx); (case k5 => l_idx); k_whole) | (refine' item_menuB 1 9 ?k1 ?k2 ?k3 ?k4 ?k5 ?kb ?_; (case k1 => is_list); (case k2 => l_ints); (case kb => decide); (case k3 => l_idx); (case k4 => l_idx); (case k5 => l_idx); k_whole) | (refine' item_menuB 1 65535 ?k1 ?k2 ?k3 ?k4 ?k5 ?kb ?_; (case k1 => is_list); (case k2 => l_ints); (case kb => decide); (case k3 => l_idx); (case k4 => l_idx); (case k5 => l_idx); k_whole) | (refine' item_menuB (-7) 130 ?k1 ?k2 ?k3 ?k4 ?k5 ?kb ?_; (case k1 => is_list); (case k2 => l_ints); (case kb => decide); (case k3 => l_idx); (case k4 => l_idx); (case k5 => l_idx); k_whole))); intro _ _ _ _)
  k_with "my call ref" => (k_here; (with_reducible show wpAny _ _ (call (Value.ref 72) _) _ _ _); k_dflt (refine' chk_call ?k1 ?k2 ?k3 ?k4 ?m1 ?k5 ?kK ?i1 ?l1 ?q1 ?kd ?ku ?_; (case k2 => k_asm); (case k1 => k_asm); (case k3 => k_asm); (case k4 => k_asm); (case k5 => k_asm); (case m1 => assumption); (case kK => first | exact rfl | assumption); (case i1 => assumption); (case l1 => assumption); (case q1 => assumption); (case kd => ktr_room); (case ku => ktr_units); intro _ _ _ _; (try dsimp only); (try k_fold)))
  trivial
set_option maxRecDepth 100000 in
set_option maxHeartbeats 8000000 in
theorem ref_no {w : World} {p : Program} {loose : List Str} {mean : ExcName → Option Value} {mg mb : Str → Option Value}
    {dp un : Nat} {gd : Option (List Code)} {cn : Str} {cs : Scope} {a : Addr} {ccd : Value} {cl : List (Str × Addr)} {outer : List Env} {A₀ : Around} {base h₀ : Heap} {L : Addr} {m : Str → Option Value} {s : Shared} {Q E : Value → Shared → Prop}
    {qt : Addr} {qvs : List Value} {qs : List Int} {most : Int} {tn tm : Tok} {news : List (Addr × Obj)}
    (B : Below A₀ base outer h₀) (F : Fr h₀ L s.heap m) (X : (Mine.hd.heap_39 w.params).In h₀) (N : News h₀ L s.heap news) (m1 : (qt, tupOf qvs) ∈ news) (T : Top p loose mean mg mb h₀)
    (hk : cs.kind = .function) (hI : IntsAre qvs qs) (hl : qs.length = 4) (hq : ∀ v ∈ qs, 1 ≤ v ∧ v ≤ most) (hd : dp + 30 < recursionLimit) (hu : un + 400 < cLine)
    (ret : ∀ h' tk', Fr h₀ L h' m → News h₀ L h' news → Q (.bool false) { s with heap := h', toks := tk' }) :
    wpAny (model PySem.Challenge.rw_nt0538_01.row.prog w) (ktrTop dp un gd cn cs L a ccd cl outer) (call (.ref 160) [.ref qt, .int 2 tn, .int most tm]) Q E s := by
  revert X; k_fill; intro X
  refine wpAny_call ?_
  k_dflt cell_enter
  k_steps
  exact ret _ _ (by k_asm) (by k_asm)
end
end
section
-- N4
open PySem.Calls
theorem words_26 : True := by
  k_with_none
  k_with "own k_all" => (assumption)
  k_with "my subscriptTail Name Constant ref int" => (k_here; (with_reducible show wpAny _ _ (subscriptTail _ _ (Value.ref _) (Value.int _ _)) _ _ _); (with_unfolding_all refine' item_litK ?k1 ?k2 ?k3 ?k4 ?_ ?k6; (case k1 => is_list); (case k2 => decide); (case k3 => decide); (case k4 => rfl); (case k6 => with_unfolding_all rfl); k_whole))
  k_with "my take asks" => ( (case k2 => k_asm); (case k1 => k_asm); (case k3 => k_asm); (case k5 => k_asm); (case kK => first | exact rfl | assumption); (case kr => k_all); (case kx => assumption); (case ky => assumption); (case ky2 => assumption); (case kt => first | decide | omega); (case kt2 => first | decide | omega); (case kd => ktr_room); (case ku => ktr_units); intro _ _ _ _ _ _ _ _ _ _ N' _ _ _ _ _; (try simp only [List.nil_append, List.cons_append] at N'); (try dsimp only); (try k_fold); (have N' := True.intro))
  k_with "my call ref" => (k_here; (with_reducible show wpAny _ _ (call (Value.ref 124) _) _ _ _); k_dflt (first | (refine' take_call (pre := []) ?k1 ?k2 ?k3 ?k4 ?k5 ?kK ?kr ?kx ?ky ?ky2 ?kt ?kt2 ?kd ?ku ?_; (case k4 => assumption); walk_at "take asks") | (refine' take_call (pre := [_]) ?k1 ?k2 ?k3 ?k4 ?k5 ?kK ?kr ?kx ?ky ?ky2 ?kt ?kt2 ?kd ?ku ?_; (case k4 => assumption); walk_at "take asks") | (refine' take_call (pre := [_, _]) ?k1 ?k2 ?k3 ?k4 ?k5 ?kK ?kr ?kx ?ky ?ky2 ?kt ?kt2 ?kd ?ku ?_; (case k4 => assumption); walk_at "take asks") | (refine' take_call (pre := [_, _, _]) ?k1 ?k2 ?k3 ?k4 ?k5 ?kK ?kr ?kx ?ky ?ky2 ?kt ?kt2 ?kd ?ku ?_; (case k4 => assumption); walk_at "take asks") | (refine' take_call (pre := [_, _, _, _]) ?k1 ?k2 ?k3 ?k4 ?k5 ?kK ?kr ?kx ?ky ?ky2 ?kt ?kt2 ?kd ?ku ?_; (case k4 => assumption); walk_at "take asks") | (refine' take_call (pre := [_, _, _, _, _]) ?k1 ?k2 ?k3 ?k4 ?k5 ?kK ?kr ?kx ?ky ?ky2 ?kt ?kt2 ?kd ?ku ?_; (case k4 => assumption); walk_at "take asks") | (refine' take_call (pre := [_, _, _, _, _, _]) ?k1 ?k2 ?k3 ?k4 ?k5 ?kK ?kr ?kx ?ky ?ky2 ?kt ?kt2 ?kd ?ku ?_; (case k4 => assumption); walk_at "take asks")))
  k_with "own k_all" => (first | assumption | exact lt_ne0 (by assumption) (by omega) | exact lt_ne1 (by assumption) (by omega) | exact lt_ne2 (by assumption) (by omega) | exact lt_ne3 (by assumption) (by omega))
  k_with "my enter C" => (refine' code_defC ?k1 ?k2 ?k3 ?k4 ?k5 ?kA ?kF ?kK ?k6 ?k7 ?k8 ?k9 ?kB ?kD ?_ ?c2 ?c3 ?c4; (case kA => exact rfl); (case kF => exact rfl); (case kK => assumption); (case k1 => k_asm); (case k2 => k_asm); (case k3 => k_asm); (case k4 => k_asm); (case k5 => k_asm); (case k6 => k_is); (case k7 => k_is); (case k8 => ktr_room); (case k9 => exact BindsTo.of_eq rfl); (case kB => exact rfl); (case kD => decide +kernel); (case c2 => exact rfl); (case c3 => exact rfl); (case c4 => exact rfl); k_whole; intro _ _ _ _ _ _ _ N' Y' B' _ _ l1; (have l2 := l1); (try k_lt l1); k_cells Y'; (try simp only [List.cons_append, List.nil_append] at N'); (try dsimp only); (try k_lift B'); (try k_fold); (have N' := True.intro); (have Y' := True.intro); (have B' := True.intro); (have l1 := True.intro); (have l2 := True.intro))
  k_with "my subscriptTail" => (k_here; (with_reducible show wpAny _ _ (subscriptTail (PySem.Expr.List _ _) _ (Value.ref _) (Value.int _ _)) _ _ _); (with_unfolding_all (first | (refine' item_menuB 1 65535 ?k1 ?k2 ?k3 ?k4 ?k5 ?kb ?_; (case k1 => is_list); (case k2 => l_ints); (case kb => decide); (case k3 => l_idx); (case k4 => l_idx); (case k5 => l_idx); k_whole) | (refine' item_menuB (-7) 130 ?k1 ?k2 ?k3 ?k4 ?k5 ?kb ?_; (case k1 => is_list); (case k2 => l_ints); (case kb => decide); (case k3 => l_idx); (case k4 => l_idx); (case k5 => l_idx); k_whole))); intro _ _ _ _)
  k_with "my eval ListComp" => (k_here; k_dflt (refine LCg.ListComp_U (F₀ := by k_asm) (by with_unfolding_all rfl) (by decide) (by rfl) (by decide) (by rfl) ?_))
  k_with "my CompSrc" => (k_here; k_dflt (refine LCg.CompSrc.range (by rfl) (by k_asm) (by k_asm) (by assumption) (by first | exact small_one (by kcf_bnd) (by kcf_bnd) (by kcf_bnd) (by kcf_bnd) | decide) (by first | exact rangeSize_nat _ _ | rfl) (by first | (rw [PySem.sizeLine_eq]; omega) | (rw [PySem.sizeLine_eq]; (simp only [List.size_toArray]); omega) | size_fits) ?_; intro _))
  k_with "my CompRest" => (fail "mine")
  k_with "my compareOp Eq ref ref" => (k_here; k_dflt (first | (refine' tup_eq ?k1 ?k2 ?k3 ?k4 ?k5 ?_; (case k1 => exact News.isTup (by k_asm) (by k_mem)); (case k2 => exact News.isTup (by k_asm) (by k_mem)); (case k3 => l_ints); (case k4 => l_ints); (case k5 => ktr_units); k_whole) | (refine' eq_intsK ?k1 ?k2 ?k3 ?k4 ?k5 ?_; (case k1 => is_list); (case k2 => l_ints); (case k3 => is_list); (case k4 => l_ints); (case k5 => ktr_units); k_whole)))
  k_with "my compareOp NotEq ref ref" => (k_here; k_dflt (first | (refine' tup_ne ?k1 ?k2 ?k3 ?k4 ?k5 ?_; (case k1 => exact News.isTup (by k_asm) (by k_mem)); (case k2 => exact News.isTup (by k_asm) (by k_mem)); (case k3 => l_ints); (case k4 => l_ints); (case k5 => ktr_units); k_whole) | (refine' ne_intsK ?k1 ?k2 ?k3 ?k4 ?k5 ?_; (case k1 => is_list); (case k2 => l_ints); (case k3 => is_list); (case k4 => l_ints); (case k5 => ktr_units); k_whole)))
  k_with "my call type:tuple" => (k_here; (with_reducible show wpAny _ _ (call (Value.type _) [Value.ref _]) _ _ _); k_dflt (refine' call_tuple_tup ?k1 ?_; (case k1 => exact News.isTup (by k_asm) (by k_mem)); k_whole))
  k_with "my call builtin:len" => (k_here; (with_reducible show wpAny _ _ (call (Value.builtin "len") [Value.ref _]) _ _ _); k_dflt (refine' len_tupI ?k1 ?k2 ?k3 ?_; (case k1 => exact News.isTup (by k_asm) (by k_mem)); (case k2 => l_ints); (case k3 => omega); k_whole))
  trivial
theorem adjust_to (b n : Nat) (hb : b ≤ n) : Builtin.Slice.sliceAdjust none (some (b : Int)) 1 (n : Int) = ((0 : Int), (b : Int)) := by
  unfold Builtin.Slice.sliceAdjust
  have h1 : ¬ ((1 : Int) < 0) := by omega
  have h2 : ¬ ((b : Int) < 0) := by omega
  simp only [h1, h2, if_false]
  congr 1
  omega
theorem places_to (b : Nat) : Builtin.Slice.slicePlaces (0 : Int) (b : Int) 1 = b := by
  unfold Builtin.Slice.slicePlaces
  have h1 : (1 : Int) > 0 := by omega
  simp only [h1, if_true, Int.ediv_one]
  split <;> omega
theorem pick_to (xs : Array Value) (b : Nat) : ((List.range b).filterMap fun (k : Nat) => xs[((0 : Int) + (k : Int) * 1).toNat]?).toArray = (xs.toList.take b).toArray := by
  have e : (fun (k : Nat) => xs[((0 : Int) + (k : Int) * 1).toNat]?) = fun k => xs[0 + k]? := by
    funext k
    have : ((0 : Int) + (k : Int) * 1).toNat = 0 + k := by omega
    rw [this]
  rw [e]
  have := pick_run xs 0 b
  rw [List.filterMap_map] at this
  have e2 : ((fun x => xs[x]?) ∘ fun x => 0 + x) = fun k => xs[0 + k]? := rfl
  rw [e2] at this
  rw [this, List.drop_zero]
section
variable {prog : Program} {w : World} {A : Around} {E : Value → Shared → Prop} {s : Shared} {h₀ : Heap} {L : Addr} {m : Str → Option Value} {news : List (Addr × Obj)}
theorem sliceApplied_to {sl : Addr} {b n : Nat} {u : Tok} {Q : Int × Int × Nat → Shared → Prop} (hs : s.heap.IsSliceOf sl .none (.int b u) .none) (hb : b ≤ n) (h : Q ((0 : Int), 1, b) s) :
    wpAny (model prog w) A (Builtin.Slice.sliceApplied (.ref sl) (pure (n : Int))) Q E s := by
  obtain ⟨os, hos, hcs, hds⟩ := id hs
  unfold Builtin.Slice.sliceApplied Builtin.Slice.sliceFields
  refine wpAny_bind (wpAny_bind (wpAny_field hos hds (x := .none) rfl (wpAny_bind (wpAny_field hos hds (x := .int b u) rfl (wpAny_bind (wpAny_field hos hds (x := .none) rfl (wpAny_pure ?_)))))))
  refine wpAny_bind (slicePart_none ?_)
  show wpAny _ _ (if ((1 : Int) == 0) = true then _ else _) _ _ s
  rw [if_neg (by decide)]
  refine wpAny_bind (slicePart_none (wpAny_bind (slicePart_int (wpAny_bind (wpAny_pure ?_)))))
  show wpAny _ _ (match Builtin.Slice.sliceAdjust none (some (b : Int)) 1 (n : Int) with | (lo, hi) => pure (lo, (1 : Int), Builtin.Slice.slicePlaces lo hi 1)) _ _ s
  rw [adjust_to b n hb]
  show wpAny _ _ (pure ((0 : Int), (1 : Int), Builtin.Slice.slicePlaces (0 : Int) (b : Int) 1)) _ _ s
  rw [places_to b]
  exact wpAny_pure h
theorem getItem_tuple_to {t sl : Addr} {items : Array Value} {b : Nat} {u : Tok} {Q : Value → Shared → Prop} (ht : IsTup s.heap t items) (hs : s.heap.IsSliceOf sl .none (.int b u) .none) (hb : b < items.size)
    (h : Q (.ref s.heap.objs.size) { s with heap := s.heap.push { cls := .type "tuple", data := .seq (items.toList.take b).toArray } })
    (hsz : items.size ≤ sizeLine) : wpAny (model prog w) A (getItem (.ref t) (.ref sl)) Q E s := by
  have htake : sizeOk (.seq (items.toList.take b).toArray) := by
    show (items.toList.take b).toArray.size ≤ sizeLine
    rw [List.size_toArray, List.length_take, Array.length_toList]
    omega
  obtain ⟨os, hos, hcs, hds⟩ := id hs
  have hTs : s.TypeIs (.ref sl) "slice" := ⟨os, hos, hcs⟩
  unfold getItem
  try with_reducible refine wpAny_holding ?_
  first | refine wpAny_bind (wpAny_pure ?_) | skip
  refine wpAny_bind (wpAny_sequenceKey ht.typeIs (by decide) ?_)
  refine wpAny_bind (wpAny_callSpecial?_slot (name := Str.ofString "__getitem__") ht.typeIs PyProof.Rows.slot_tuple_getitem
    (wpAny_call_entry PyProof.Rows.slot_tuple_getitem ht.typeIs PyProof.Rows.entry_tuple_getitem ?_ (args_tuple_getitem _ _)))
  show wpAny _ _ (Builtin.Tuple.tupleItemsOf (.ref t) >>= _) _ _ s
  refine wpAny_bind (tupleItemsOf_ ht ?_)
  refine wpAny_bind (wpAny_typeOf hTs ?_)
  rw [if_pos (by decide)]
  refine wpAny_bind (sliceApplied_to hs (Nat.le_of_lt hb) ?_)
  have hno : ¬ (((0 : Int) == 0 && (1 : Int) == 1 && b == items.size) = true) := by
    have : (b == items.size) = false := by rw [beq_eq_false_iff_ne]; omega
    rw [this]; simp
  show wpAny _ _ (if ((0 : Int) == 0 && (1 : Int) == 1 && b == items.size) = true then _ else _) _ _ s
  rw [if_neg hno, pick_to items b]
  first
    | exact wpAny_bind (m := Builtin.Tuple.tupleExact _) (wpAny_newObj_type (wpAny_pure ⟨_, rfl, wpAny_pure h⟩) htake)
    | exact wpAny_bind (m := Builtin.Tuple.tupleExact _) (wpAny_newObj_type (wpAny_bind (wpAny_pure (wpAny_pure ⟨_, rfl, wpAny_pure h⟩))) htake)
    | exact wpAny_bind (wpAny_bind (m := Builtin.Tuple.tupleExact _) (wpAny_newObj_type (wpAny_pure (wpAny_pure ⟨_, rfl, wpAny_pure h⟩)) htake))
    | exact wpAny_bind (wpAny_bind (m := Builtin.Tuple.tupleExact _) (wpAny_newObj_type (wpAny_pure ⟨_, rfl, wpAny_pure h⟩) htake))
theorem slice_toK {value slice : PySem.Expr} {t : Addr} {vs zs : List Value} {b : Nat} {u : Tok} {Q : Value → Shared → Prop}
    (F : Fr h₀ L s.heap m) (N : News h₀ L s.heap news) (ht : IsTup s.heap t vs.toArray) (hb : b < vs.length) (hz : vs.take b = zs) (hsz : vs.length ≤ sizeLine)
    (h : ∀ D h', Fr h₀ L h' m → News h₀ L h' ((D, { cls := .type "tuple", data := .seq zs.toArray }) :: news) → (∀ p ∈ news, p.1 < D) → Q (.ref D) { s with heap := h' })
    (hs : subscripted slice false (.ref t) (.ref s.heap.objs.size) = operate [.ref s.heap.objs.size, .ref t] (getItem (.ref t) (.ref s.heap.objs.size)))
    (hg : ∀ r, letTemporaryGo value (.ref t) r = pure ()) :
    wpAny (model prog w) A (subscriptTail value slice (.ref t) (.ref s.heap.objs.size)) Q E { s with heap := s.heap.push { cls := .type "slice", data := .fields #[.none, .int b u, .none] } } := by
  have ht' : IsTup (s.heap.push { cls := .type "slice", data := .fields #[.none, .int b u, .none] }) t vs.toArray := ht.keeps fun _ _ e => Heap.get?_push_of_some _ e
  refine subscriptTail_ops (s := { s with heap := s.heap.push { cls := .type "slice", data := .fields #[.none, .int b u, .none] } }) ht'.typeIs PyProof.Rows.slot_tuple_getitem.lookup
    (getItem_tuple_to ht' (Heap.IsSliceOf.new ..) (by rw [List.size_toArray]; exact hb) ?_ (by rw [List.size_toArray]; exact hsz)) hs hg
  have N1 := News.push (F.push { cls := .type "slice", data := .fields #[.none, .int b u, .none] }) (N.grown fun _ _ e => Heap.get?_push_of_some _ e) { cls := .type "tuple", data := .seq (vs.toArray.toList.take b).toArray }
  rw [Heap.size_push] at N1
  show Q (.ref (s.heap.push _).objs.size) _
  rw [Heap.size_push]
  refine h _ _ ((F.push _).push _) ?_ (fun p hp => Nat.lt_succ_of_lt (Heap.lt_size (N p hp).1))
  rw [← hz]
  simpa using N1
theorem slice_fromK {value slice : PySem.Expr} {t : Addr} {vs zs : List Value} {a : Nat} {u : Tok} {Q : Value → Shared → Prop}
    (F : Fr h₀ L s.heap m) (N : News h₀ L s.heap news) (ht : IsTup s.heap t vs.toArray) (h1 : 1 ≤ a) (ha : a ≤ vs.length) (hz : vs.drop a = zs) (hsz : vs.length ≤ sizeLine)
    (h : ∀ D h', Fr h₀ L h' m → News h₀ L h' ((D, { cls := .type "tuple", data := .seq zs.toArray }) :: news) → (∀ p ∈ news, p.1 < D) → Q (.ref D) { s with heap := h' })
    (hs : subscripted slice false (.ref t) (.ref s.heap.objs.size) = operate [.ref s.heap.objs.size, .ref t] (getItem (.ref t) (.ref s.heap.objs.size)))
    (hg : ∀ r, letTemporaryGo value (.ref t) r = pure ()) :
    wpAny (model prog w) A (subscriptTail value slice (.ref t) (.ref s.heap.objs.size)) Q E { s with heap := s.heap.push { cls := .type "slice", data := .fields #[.int a u, .none, .none] } } := by
  refine slice_tuple_from F N ht h1 (by rw [List.size_toArray]; exact ha) (fun h' F' N' => h _ h' F' ?_ (fun p hp => Nat.lt_succ_of_lt (Heap.lt_size (N p hp).1))) hs hg (by rw [List.size_toArray]; exact hsz)
  rw [← hz]
  simpa using N'
end
end
section
-- N5
open PySem.Calls
theorem qof_call {w : World} {p : Program} {loose : List Str} {mean : ExcName → Option Value} {mg mb : Str → Option Value}
    {dp un : Nat} {gd : Option (List Code)} {cn : Str} {cs : Scope} {a : Addr} {ccd : Value} {cl : List (Str × Addr)} {outer : List Env} {A₀ : Around} {base h₀ : Heap} {L : Addr} {m : Str → Option Value} {s : Shared} {Q E : Value → Shared → Prop}
    {qt bt : Addr} {qvs bvs : List Value} {qs bs : List Int} {most : Int} {tm : Tok} {news : List (Addr × Obj)}
    (B : Below A₀ base outer h₀) (F : Fr h₀ L s.heap m) (X : (Mine.hd.heap_39 w.params).In h₀) (N : News h₀ L s.heap news) (m1 : (qt, tupOf qvs) ∈ news) (m2 : (bt, tupOf bvs) ∈ news) (T : Top p loose mean mg mb h₀)
    (hk : cs.kind = .function) (hI : IntsAre qvs qs) (hl : qs.length ≤ 9) (hJ : IntsAre bvs bs) (hl2 : bs.length ≤ 9) (hd : dp + 30 < recursionLimit) (hu : un + 400 < cLine)
    (r : Option Int) (hr : ∀ o : Option Int, (match o with | some q => 1 ≤ q ∧ q ≤ 100 ∧ bs.map (scv (qsc q) most) = qs ∧ (∀ k, q < k → k ≤ 100 → bs.map (scv (qsc k) most) ≠ qs) | none => ∀ k, 1 ≤ k → k ≤ 100 → bs.map (scv (qsc k) most) ≠ qs) → o = r)
    (ret : ∀ v h' tk', Fr h₀ L h' m → News h₀ L h' news → (match r with | some q => ∃ t, v = .int q t | none => v = .none) → Q v { s with heap := h', toks := tk' }) :
    wpAny (model PySem.Challenge.rw_nt0538_01.row.prog w) (ktrTop dp un gd cn cs L a ccd cl outer) (call (.ref 110) [.ref qt, .ref bt, .int most tm]) Q E s := by
  refine qof_ok B F X (pull2 N m2 m1) T hk hI hl hJ hl2 hd hu (fun q t h' tk' F' N' h1 h2 h3 h4 => ?_) (fun h' tk' F' N' h1 => ?_)
  · have e := hr (some q) ⟨h1, h2, h3, h4⟩
    subst e
    exact ret _ h' tk' F' (cb_drop N' (by kcf_all)) ⟨t, rfl⟩
  · have e := hr none h1
    subst e
    exact ret _ h' tk' F' (cb_drop N' (by kcf_all)) rfl
theorem q_inj : ∀ i : Fin 11, ∀ j : Fin 11, [(100 : Int), 37].map (scv (qsc (90 + (i.val : Int))) 255) = [(100 : Int), 37].map (scv (qsc (90 + (j.val : Int))) 255) → i = j := by decide +kernel
theorem q_none : ∀ i : Fin 100, [(100 : Int), 37].map (scv (qsc (1 + (i.val : Int))) 255) ≠ [255, 1] := by decide +kernel
theorem q_one : [(1 : Int), 1].map (scv (qsc 100) 255) = [1, 1] := by decide +kernel
theorem of_1 {q : Int} (h1 : 90 ≤ q) (h2 : q ≤ 100) : ∀ o : Option Int, (match o with | some q' => 1 ≤ q' ∧ q' ≤ 100 ∧ [(100 : Int), 37].map (scv (qsc q') 255) = [(100 : Int), 37].map (scv (qsc q) 255) ∧ (∀ k, q' < k → k ≤ 100 → [(100 : Int), 37].map (scv (qsc k) 255) ≠ [(100 : Int), 37].map (scv (qsc q) 255)) | none => ∀ k, 1 ≤ k → k ≤ 100 → [(100 : Int), 37].map (scv (qsc k) 255) ≠ [(100 : Int), 37].map (scv (qsc q) 255)) → o = some q := by
  intro o h
  cases o with
  | none => exact absurd rfl (h q (by omega) h2)
  | some q' =>
    obtain ⟨a, b, e, d⟩ := h
    have ge : q ≤ q' := by
      rcases Int.lt_or_le q' q with hlt | hle
      · exact absurd rfl (d q hlt h2)
      · exact hle
    have hi : (q' - 90).toNat < 11 := by omega
    have hj : (q - 90).toNat < 11 := by omega
    have z := q_inj ⟨_, hi⟩ ⟨_, hj⟩
    have e1 : (90 : Int) + (((q' - 90).toNat : Nat) : Int) = q' := by omega
    have e2 : (90 : Int) + (((q - 90).toNat : Nat) : Int) = q := by omega
    simp only [e1, e2] at z
    have y := congrArg Fin.val (z e)
    dsimp only at y
    rw [show q' = q by omega]
theorem of_2 : ∀ o : Option Int, (match o with | some q' => 1 ≤ q' ∧ q' ≤ 100 ∧ [(1 : Int), 1].map (scv (qsc q') 255) = [1, 1] ∧ (∀ k, q' < k → k ≤ 100 → [(1 : Int), 1].map (scv (qsc k) 255) ≠ [1, 1]) | none => ∀ k, 1 ≤ k → k ≤ 100 → [(1 : Int), 1].map (scv (qsc k) 255) ≠ [1, 1]) → o = some 100 := by
  intro o h
  cases o with
  | none => exact absurd q_one (h 100 (by omega) (by omega))
  | some q' =>
    obtain ⟨a, b, e, d⟩ := h
    rcases Int.lt_or_le q' 100 with hlt | hle
    · exact absurd q_one (d 100 hlt (by omega))
    · rw [show q' = 100 by omega]
theorem of_3 : ∀ o : Option Int, (match o with | some q' => 1 ≤ q' ∧ q' ≤ 100 ∧ [(100 : Int), 37].map (scv (qsc q') 255) = [255, 1] ∧ (∀ k, q' < k → k ≤ 100 → [(100 : Int), 37].map (scv (qsc k) 255) ≠ [255, 1]) | none => ∀ k, 1 ≤ k → k ≤ 100 → [(100 : Int), 37].map (scv (qsc k) 255) ≠ [255, 1]) → o = none := by
  intro o h
  cases o with
  | none => rfl
  | some q' =>
    obtain ⟨a, b, e, d⟩ := h
    have hi : (q' - 1).toNat < 100 := by omega
    have z := q_none ⟨_, hi⟩
    have e1 : (1 : Int) + (((q' - 1).toNat : Nat) : Int) = q' := by omega
    simp only [e1] at z
    exact absurd e z
section
variable {prog : Program} {w : World} {A : Around} {E : Value → Shared → Prop} {s : Shared}
theorem item_anyV {value slice : PySem.Expr} {l : Addr} {its : List Value} {k : Int} {u : Tok} {Q : Value → Shared → Prop} (P : Value → Prop) (hl : s.heap.IsList l its.toArray) (h0 : 0 ≤ k) (h1 : k < its.length) (hfit : its.length ≤ 1000) (hP : ∀ v ∈ its, P v) (h : ∀ v, P v → Q v s)
    (hs : subscripted slice false (.ref l) (.int k u) = operate [.ref l, .int k u] (getItem (.ref l) (.int k u)) := by with_unfolding_all rfl) :
    wpAny (model prog w) A (subscriptTail value slice (.ref l) (.int k u)) Q E s := by
  have h2 : k.toNat < its.length := by omega
  exact item_litK hl h0 (by omega) (List.getElem?_eq_getElem h2) (h _ (hP _ (List.getElem_mem h2))) hs
end
def BadTab (news : List (Addr × Obj)) (v : Value) : Prop := ∃ r vs ns, v = .ref r ∧ (r, tupOf vs) ∈ news ∧ IntsAre vs ns ∧ ns.length ≤ 5 ∧ (ns.length ≠ 4 ∨ ∃ x ∈ ns, ¬ (1 ≤ x ∧ x ≤ 255))
section
variable {prog : Program} {w : World} {A : Around} {E : Value → Shared → Prop} {s : Shared}
theorem bad_any {value slice : PySem.Expr} {h₀ : Heap} {L l : Addr} {its : List Value} {k : Int} {u : Tok} {n : Nat} {news : List (Addr × Obj)} {Q : Value → Shared → Prop} (N : News h₀ L s.heap news) (hm : (l, listOf its.toArray n) ∈ news) (h0 : 0 ≤ k) (h1 : k < its.length) (hfit : its.length ≤ 1000)
    (hP : ∀ v ∈ its, BadTab news v) (h : ∀ v, BadTab news v → Q v s)
    (hs : subscripted slice false (.ref l) (.int k u) = operate [.ref l, .int k u] (getItem (.ref l) (.int k u)) := by with_unfolding_all rfl) :
    wpAny (model prog w) A (subscriptTail value slice (.ref l) (.int k u)) Q E s :=
  item_anyV (BadTab news) (News.isList N hm) h0 h1 hfit hP h hs
end
end
section
-- O1
section
open PySem.Calls
theorem words_27 : True := by
  k_with_none
  k_with "own k_all" => (assumption)
  k_with "my subscriptTail Name Constant ref int" => (k_here; (with_reducible show wpAny _ _ (subscriptTail _ _ (Value.ref _) (Value.int _ _)) _ _ _); (with_unfolding_all refine' item_litK ?k1 ?k2 ?k3 ?k4 ?_ ?k6; (case k1 => is_list); (case k2 => decide); (case k3 => decide); (case k4 => rfl); (case k6 => with_unfolding_all rfl); k_whole))
  k_with "my take asks" => ( (case k2 => k_asm); (case k1 => k_asm); (case k3 => k_asm); (case k5 => k_asm); (case kK => first | exact rfl | assumption); (case kr => k_all); (case kx => assumption); (case ky => assumption); (case ky2 => assumption); (case kt => first | decide | omega); (case kt2 => first | decide | omega); (case kd => ktr_room); (case ku => ktr_units); intro _ _ _ _ _ _ _ _ _ _ N' _ _ _ _ _; (try simp only [List.nil_append, List.cons_append] at N'); (try dsimp only); (try k_fold); (have N' := True.intro))
  k_with "my call ref" => (k_here; (with_reducible show wpAny _ _ (call (Value.ref 124) _) _ _ _); k_dflt (first | (refine' take_call (pre := []) ?k1 ?k2 ?k3 ?k4 ?k5 ?kK ?kr ?kx ?ky ?ky2 ?kt ?kt2 ?kd ?ku ?_; (case k4 => assumption); walk_at "take asks") | (refine' take_call (pre := [_]) ?k1 ?k2 ?k3 ?k4 ?k5 ?kK ?kr ?kx ?ky ?ky2 ?kt ?kt2 ?kd ?ku ?_; (case k4 => assumption); walk_at "take asks") | (refine' take_call (pre := [_, _]) ?k1 ?k2 ?k3 ?k4 ?k5 ?kK ?kr ?kx ?ky ?ky2 ?kt ?kt2 ?kd ?ku ?_; (case k4 => assumption); walk_at "take asks") | (refine' take_call (pre := [_, _, _]) ?k1 ?k2 ?k3 ?k4 ?k5 ?kK ?kr ?kx ?ky ?ky2 ?kt ?kt2 ?kd ?ku ?_; (case k4 => assumption); walk_at "take asks") | (refine' take_call (pre := [_, _, _, _]) ?k1 ?k2 ?k3 ?k4 ?k5 ?kK ?kr ?kx ?ky ?ky2 ?kt ?kt2 ?kd ?ku ?_; (case k4 => assumption); walk_at "take asks") | (refine' take_call (pre := [_, _, _, _, _]) ?k1 ?k2 ?k3 ?k4 ?k5 ?kK ?kr ?kx ?ky ?ky2 ?kt ?kt2 ?kd ?ku ?_; (case k4 => assumption); walk_at "take asks") | (refine' take_call (pre := [_, _, _, _, _, _]) ?k1 ?k2 ?k3 ?k4 ?k5 ?kK ?kr ?kx ?ky ?ky2 ?kt ?kt2 ?kd ?ku ?_; (case k4 => assumption); walk_at "take asks")))
  k_with "own k_all" => (first | assumption | exact lt_ne0 (by assumption) (by omega) | exact lt_ne1 (by assumption) (by omega) | exact lt_ne2 (by assumption) (by omega) | exact lt_ne3 (by assumption) (by omega))
  k_with "my enter C" => (refine' code_defC ?k1 ?k2 ?k3 ?k4 ?k5 ?kA ?kF ?kK ?k6 ?k7 ?k8 ?k9 ?kB ?kD ?_ ?c2 ?c3 ?c4; (case kA => exact rfl); (case kF => exact rfl); (case kK => assumption); (case k1 => k_asm); (case k2 => k_asm); (case k3 => k_asm); (case k4 => k_asm); (case k5 => k_asm); (case k6 => k_is); (case k7 => k_is); (case k8 => ktr_room); (case k9 => exact BindsTo.of_eq rfl); (case kB => exact rfl); (case kD => decide +kernel); (case c2 => exact rfl); (case c3 => exact rfl); (case c4 => exact rfl); k_whole; intro _ _ _ _ _ _ _ N' Y' B' _ _ l1; (have l2 := l1); (try k_lt l1); k_cells Y'; (try simp only [List.cons_append, List.nil_append] at N'); (try dsimp only); (try k_lift B'); (try k_fold); (have N' := True.intro); (have Y' := True.intro); (have B' := True.intro); (have l1 := True.intro); (have l2 := True.intro))
  k_with "my subscriptTail" => (k_here; (with_reducible show wpAny _ _ (subscriptTail (PySem.Expr.List _ _) _ (Value.ref _) (Value.int _ _)) _ _ _); (with_unfolding_all (first | (refine' item_menuB 1 65535 ?k1 ?k2 ?k3 ?k4 ?k5 ?kb ?_; (case k1 => is_list); (case k2 => l_ints); (case kb => decide); (case k3 => l_idx); (case k4 => l_idx); (case k5 => l_idx); k_whole) | (refine' item_menuB (-7) 130 ?k1 ?k2 ?k3 ?k4 ?k5 ?kb ?_; (case k1 => is_list); (case k2 => l_ints); (case kb => decide); (case k3 => l_idx); (case k4 => l_idx); (case k5 => l_idx); k_whole))); intro _ _ _ _)
  k_with "my eval ListComp" => (k_here; k_dflt (refine LCg.ListComp_U (F₀ := by k_asm) (by with_unfolding_all rfl) (by decide) (by rfl) (by decide) (by rfl) ?_))
  k_with "my CompSrc" => (k_here; k_dflt (refine LCg.CompSrc.range (by rfl) (by k_asm) (by k_asm) (by assumption) (by first | exact small_one (by kcf_bnd) (by kcf_bnd) (by kcf_bnd) (by kcf_bnd) | decide) (by first | exact rangeSize_nat _ _ | rfl) (by first | (rw [PySem.sizeLine_eq]; omega) | (rw [PySem.sizeLine_eq]; (simp only [List.size_toArray]); omega) | size_fits) ?_; intro _))
  k_with "my CompRest" => (fail "mine")
  k_with "my compareOp Eq ref ref" => (k_here; k_dflt (first | (refine' tup_eq ?k1 ?k2 ?k3 ?k4 ?k5 ?_; (case k1 => exact News.isTup (by k_asm) (by k_mem)); (case k2 => exact News.isTup (by k_asm) (by k_mem)); (case k3 => l_ints); (case k4 => l_ints); (case k5 => ktr_units); k_whole) | (refine' eq_intsK ?k1 ?k2 ?k3 ?k4 ?k5 ?_; (case k1 => is_list); (case k2 => l_ints); (case k3 => is_list); (case k4 => l_ints); (case k5 => ktr_units); k_whole)))
  k_with "my compareOp NotEq ref ref" => (k_here; k_dflt (first | (refine' tup_ne ?k1 ?k2 ?k3 ?k4 ?k5 ?_; (case k1 => exact News.isTup (by k_asm) (by k_mem)); (case k2 => exact News.isTup (by k_asm) (by k_mem)); (case k3 => l_ints); (case k4 => l_ints); (case k5 => ktr_units); k_whole) | (refine' ne_intsK ?k1 ?k2 ?k3 ?k4 ?k5 ?_; (case k1 => is_list); (case k2 => l_ints); (case k3 => is_list); (case k4 => l_ints); (case k5 => ktr_units); k_whole)))
  k_with "my call type:tuple" => (k_here; (with_reducible show wpAny _ _ (call (Value.type _) [Value.ref _]) _ _ _); k_dflt (refine' call_tuple_tup ?k1 ?_; (case k1 => exact News.isTup (by k_asm) (by k_mem)); k_whole))
  k_with "my call builtin:len" => (k_here; (with_reducible show wpAny _ _ (call (Value.builtin "len") [Value.ref _]) _ _ _); k_dflt (refine' len_tupI ?k1 ?k2 ?k3 ?_; (case k1 => exact News.isTup (by k_asm) (by k_mem)); (case k2 => l_ints); (case k3 => omega); k_whole))
  k_with "my q of" => (first | exact q0 (by assumption) | exact q1 (by assumption) | exact q2 (by assumption) | exact q3 (by assumption) | exact q4 (by assumption) | exact q5 (by assumption) | exact q6 (by assumption) | exact q7 (by assumption) | exact q8 (by assumption) | exact q9 (by assumption))
  k_with "my q lt" => (first | assumption | exact Nat.lt_succ_self _ | walk_at "q of")
  k_with "my q ne" => (first | (refine' Nat.lt_of_lt_of_le ?h q_u7; (case h => walk_at "q lt")) | (refine' Nat.lt_of_lt_of_le ?h q_u6; (case h => walk_at "q lt")) | (refine' Nat.lt_of_lt_of_le ?h q_u5; (case h => walk_at "q lt")) | (refine' Nat.lt_of_lt_of_le ?h q_u4; (case h => walk_at "q lt")) | (refine' Nat.lt_of_lt_of_le ?h q_u3; (case h => walk_at "q lt")) | (refine' Nat.lt_of_lt_of_le ?h q_u2; (case h => walk_at "q lt")) | (refine' Nat.lt_of_lt_of_le ?h q_u1; (case h => walk_at "q lt")) | walk_at "q lt")
  k_with "my q eq" => (first | (refine' Eq.trans (by assumption) ?q; (case q => walk_at "q eq")) | (refine' Eq.trans q_t0 ?q; (case q => walk_at "q eq")) | exact rfl)
  k_with "own omega" => (first | decide | with_reducible first | assumption | (refine' q_gt ?q; (case q => walk_at "q ne")) | (refine' Ne.symm (q_gt ?q); (case q => walk_at "q ne")) | exact q_room1 (by assumption) rfl | exact q_room (by assumption) rfl | exact q_room0 (by assumption) | exact q_i0 | exact q_nlo | exact q_nhi (by assumption) | exact q_cnt (by assumption) | exact q_pos (by assumption) | exact q_blo (by assumption) | exact q_bhi (by assumption) | exact q_ble (by assumption) rfl | exact q_vlt (by assumption) rfl | exact q_vle (by assumption) rfl | (refine' q_ll ?e ?h; (case e => walk_at "q eq"); (case h => walk_at "q eq")) | (refine' q_kl ?h ?e ?f; (case h => assumption); (case e => walk_at "q eq"); (case f => walk_at "q eq")) | (refine' q_ix ?h ?e ?f; (case h => assumption); (case e => walk_at "q eq"); (case f => walk_at "q eq")) | (refine' q_le ?e ?h ?b; (case e => walk_at "q eq"); (case h => first | assumption | decide); (case b => decide)) | (refine' q_lhi ?e ?h; (case e => walk_at "q eq"); (case h => assumption)) | exact q_u1 | exact q_u2 | exact q_u3 | exact q_u4 | exact q_u5 | exact q_u6 | exact q_u7 | walk_at "q of")
  k_with "my drops" => (first | exact Drops.here | (refine' Drops.there ?kq; (case kq => (walk_at "drops"))))
  k_with "my pool asks" => ((case k2 => k_asm); (case k1 => k_asm); (case k3 => k_asm); (case k5 => k_asm); (case kN => assumption); (case kD => (walk_at "drops")); (case kK => first | exact rfl | assumption); (case kr => k_all); (case kx => assumption); (case ky => assumption); (case ky2 => assumption); (case kt => first | decide | omega); (case kt2 => first | decide | omega); (case kd => ktr_room); (case ku => ktr_units))
  k_with "my call ref" => (k_here; (with_reducible show wpAny _ _ (call (Value.ref 124) _) _ _ _); k_dflt (refine' take_ok ?k1 ?k2 ?k3 (drops_news ?kN ?kD) ?k5 ?kK ?kr ?kx ?ky ?ky2 ?kt ?kt2 ?kd ?ku ?_; (walk_at "pool asks"); intro _ _ _ _ _ _ _ _ _ _ _ _ _ _ _ _; (try dsimp only); (try k_fold)))
  k_with "my call ref" => (k_here; (with_reducible show wpAny _ _ (call (Value.ref 131) _) _ _ _); k_dflt (refine' number_ok ?k1 ?k2 ?k3 (drops_news ?kN ?kD) ?k5 ?kK ?kr ?kx ?ky ?ky2 ?kt ?kt2 ?kd ?ku ?_; (walk_at "pool asks"); intro _ _ _ _ _ _ _ _ _ _ _ _ _ _ _ _; (try dsimp only); (try k_fold)))
  k_with "my call ref" => (k_here; (with_reducible show wpAny _ _ (call (Value.ref 136) _) _ _ _); k_dflt (refine' table_ok ?k1 ?k2 ?k3 (drops_news ?kN ?kD) ?k5 ?kK ?kr ?kx ?ky ?ky2 ?kt ?kd ?ku ?kt2 ?_; (walk_at "pool asks"); intro _ _ _ _ _ _ _ _ _ _ _ _ ne' hof' _ _ _ _ _ _; (replace ne' := NE.mk ne'); (replace hof' := AllNE.of hof'); revert ne' hof'; intro _ _; (try dsimp only); (try k_fold)))
  k_with "my call ref" => (k_here; (with_reducible show wpAny _ _ (call (Value.ref 65) _) _ _ _); k_dflt (refine' sctab_call ?k1 ?k2 ?k3 ?k4 ?m1 ?k5 ?kK ?i1 ?l1 ?kd ?ku ?_; (case k2 => k_asm); (case k1 => k_asm); (case k3 => k_asm); (case k4 => k_asm); (case k5 => k_asm); (case m1 => k_mem); (case kK => first | exact rfl | assumption); (case i1 => l_ints); (case l1 => first | omega | decide); (case kd => ktr_room); (case ku => ktr_units); intro _ _ _ _ _ _ _ _ _ _ hof'; (replace hof' := AllNE.of hof'); revert hof'; intro _; (try dsimp only); (try k_fold)))
  k_with "my call ref" => (k_here; (with_reducible show wpAny _ _ (call (Value.ref 79) _) _ _ _); k_dflt (refine' prec_call ?k1 ?k2 ?k3 ?k4 ?m1 ?k5 ?kK ?i1 ?kd ?ku ?_; (case k2 => k_asm); (case k1 => k_asm); (case k3 => k_asm); (case k4 => k_asm); (case k5 => k_asm); (case m1 => k_mem); (case kK => first | exact rfl | assumption); (case i1 => l_ints); (case kd => ktr_room); (case ku => ktr_units); intro _ _ _ _ _ _ _; (try dsimp only); (try k_fold)))
  k_with "my call builtin:min" => (k_here; (with_reducible show wpAny _ _ (call (Value.builtin "min") [Value.int _ _, Value.int _ _]) _ _ _); k_dflt (refine' min_op ?kh ?kF ?kN ?_; (case kh => rfl); (case kF => k_asm); (case kN => k_asm)); intro _ _ _ _ _ _ _; (try dsimp only); (try k_fold))
  k_with "my call builtin:max" => (k_here; (with_reducible show wpAny _ _ (call (Value.builtin "max") [Value.int _ _, Value.int _ _]) _ _ _); k_dflt (refine' max_op ?kh ?kF ?kN ?_; (case kh => rfl); (case kF => k_asm); (case kN => k_asm)); intro _ _ _ _ _ _ _; (try dsimp only); (try k_fold))
  k_with "my storeName" => (k_here; first | ((with_reducible show wpAny _ _ (storeName _ (Str.ofString "hundredths") (Value.int (Int.fdiv _ _) _)) _ _ _); refine gen_store ?_; intro _ _ _) | ((with_reducible show wpAny _ _ (storeName _ (Str.ofString "hundredths") (Value.int (_ - _) _)) _ _ _); refine gen_store ?_; intro _ _ _) | ((with_reducible show wpAny _ _ (storeName _ (Str.ofString "plain") (Value.int (Int.fdiv _ _) _)) _ _ _); refine gen_store ?_; intro _ _ _))
  k_with "my enter TC" => (refine' code_defTC ?k1 ?k2 ?k3 ?k4 ?k5 ?XB ?TB ?D ?kA ?kF ?kK ?k6 ?k7 ?k8 ?k9 ?kB ?kD ?_ ?c2 ?c3 ?c4; (case kA => exact rfl); (case kF => exact rfl); (case kK => assumption); (case k2 => k_asm); (case k1 => k_asm); (case XB => assumption); (case TB => assumption); (case D => assumption); (case k3 => k_asm); (case k4 => k_asm); (case k5 => k_asm); (case k6 => k_is); (case k7 => k_is); (case k8 => ktr_room); (case k9 => exact BindsTo.of_eq rfl); (case kB => exact rfl); (case kD => decide +kernel); (case c2 => exact rfl); (case c3 => exact rfl); (case c4 => exact rfl); k_whole; intro _ _ _ _ _ _ _ N' Y' B' _ _ l1 _; (have l2 := l1); (try k_lt l1); k_cells Y'; (try simp only [List.cons_append, List.nil_append] at N'); (try dsimp only); (try k_lift B'); (try k_fold); (have N' := True.intro); (have Y' := True.intro); (have B' := True.intro); (have l1 := True.intro); (have l2 := True.intro))
  k_with "my call ref" => (k_here; (with_reducible show wpAny _ _ (call (Value.ref 160) _) _ _ _); refine Stop.mk ?_)
  k_with "my subscriptTail" => (k_here; (with_reducible show wpAny _ _ (subscriptTail (PySem.Expr.Name _ _) (PySem.Expr.Call _ _ _ _) (Value.ref _) (Value.int _ _)) _ _ _); refine Stop.mk ?_)
  k_with "my subscriptTail Name Call ref int" => (k_here; refine Stop.mk ?_)
  k_with "my call ref" => (k_here; (with_reducible show wpAny _ _ (call (Value.ref 110) _) _ _ _); refine Stop.mk ?_)
  k_with "my LeaveT" => (refine Stop.mk ?_)
  k_with "my CompSrc" => (refine Stop.mk ?_)
  k_with "my call type:tuple" => (k_here; (with_reducible show wpAny _ _ (call (Value.type _) [Value.ref _]) _ _ _); k_dflt (refine' kde_tupleOf ?k1 ?k2 ?k3 ?k4 ?k5 ?_; (case k1 => k_asm); (case k2 => k_asm); (case k3 => exact News.isList (by k_asm) (by k_mem)); (case k4 => (simp only [List.size_toArray]; omega)); (case k5 => exact rfl); k_whole); intro _ _ _ _ l9'; (have l8' := NewAbove.mk l9'); (have l9' := True.intro); (have l8' := True.intro))
  k_with "my subscriptTail Name Slice ref ref" => (k_here; k_dflt (first | (refine' slice_toK (b := 3) ?F ?N ?t ?b ?z ?sz ?_ ?s ?g; (case F => k_asm); (case N => k_asm); (case t => exact News.isTup (by k_asm) (by k_mem)); (case b => exact Nat.le_of_ble_eq_true rfl); (case z => exact rfl); (case sz => (rw [sizeLine_eq]; exact Nat.le_of_ble_eq_true rfl)); (case s => with_unfolding_all rfl); (case g => kmk_pure); k_whole) | (refine' slice_toK (b := 2) ?F ?N ?t ?b ?z ?sz ?_ ?s ?g; (case F => k_asm); (case N => k_asm); (case t => exact News.isTup (by k_asm) (by k_mem)); (case b => exact Nat.le_of_ble_eq_true rfl); (case z => exact rfl); (case sz => (rw [sizeLine_eq]; exact Nat.le_of_ble_eq_true rfl)); (case s => with_unfolding_all rfl); (case g => kmk_pure); k_whole) | (refine' slice_fromK (a := 1) ?F ?N ?t ?a1 ?b ?z ?sz ?_ ?s ?g; (case F => k_asm); (case N => k_asm); (case t => exact News.isTup (by k_asm) (by k_mem)); (case a1 => exact Nat.le_refl 1); (case b => exact Nat.le_of_ble_eq_true rfl); (case z => exact rfl); (case sz => (rw [sizeLine_eq]; exact Nat.le_of_ble_eq_true rfl)); (case s => with_unfolding_all rfl); (case g => kmk_pure); k_whole)); intro _ _ _ _ l1; (try k_lt l1); (try k_sweep); (have l1 := True.intro))
  trivial
theorem pick_news {h₀ h : Heap} {L : Addr} {p0 p1 p2 p3 p4 p5 p6 p7 p8 p9 p10 p11 p12 p13 p14 p15 p16 : Addr × Obj} {rest : List (Addr × Obj)} (N : News h₀ L h (p0 :: p1 :: p2 :: p3 :: p4 :: p5 :: p6 :: p7 :: p8 :: p9 :: p10 :: p11 :: p12 :: p13 :: p14 :: p15 :: p16 :: rest)) :
    News h₀ L h (p16 :: p0 :: p1 :: p4 :: p7 :: p10 :: p12 :: p13 :: p15 :: rest) := cb_drop N (by kcf_all)
theorem ne_of_size {h₀ h : Heap} {L r q : Addr} {a1 a2 : Array Value} {n1 n2 : Nat} {l : List (Addr × Obj)} (N : News h₀ L h l) (h1 : (r, listOf a1 n1) ∈ l) (h2 : (q, listOf a2 n2) ∈ l) (hs : a1.size ≠ a2.size) : @Ne Nat r q := by
  rintro rfl
  have a := (N _ h1).1
  have b := (N _ h2).1
  dsimp only at a b
  rw [a] at b
  have e := congrArg (fun o : Obj => match o.data with | .seq x _ => x.size | _ => 0) (Option.some.inj b)
  exact hs e
theorem ne_of_news {h₀ h : Heap} {L a : Addr} {o : Obj} {r : List (Addr × Obj)} (_N : News h₀ L h ((a, o) :: r)) (h : ∀ p ∈ r, p.1 ≠ a) : ∀ p ∈ r, p.1 ≠ a := h
theorem list4 {α : Type} : ∀ {l : List α}, l.length = 4 → ∃ a b c d, l = [a, b, c, d]
  | [a, b, c, d], _ => ⟨a, b, c, d, rfl⟩
theorem four {ys : List Value} {ns : List Int} (hI : IntsAre ys ns) (hl : ns.length = 4) : ∃ a b c d ta tb tc td, ys = [.int a ta, .int b tb, .int c tc, .int d td] ∧ ns = [a, b, c, d] := by
  obtain ⟨y0, y1, y2, y3, rfl⟩ := list4 (hI.length.trans hl)
  obtain ⟨a, b, c, d, rfl⟩ := list4 hl
  obtain ⟨a', ta, rfl, ha⟩ := hI.at 0 y0 rfl
  obtain ⟨b', tb, rfl, hb⟩ := hI.at 1 y1 rfl
  obtain ⟨c', tc, rfl, hc⟩ := hI.at 2 y2 rfl
  obtain ⟨d', td, rfl, hd⟩ := hI.at 3 y3 rfl
  cases ha
  cases hb
  cases hc
  cases hd
  exact ⟨_, _, _, _, _, _, _, _, rfl, rfl⟩
set_option maxRecDepth 100000 in
set_option maxHeartbeats 8000000 in
theorem checks_ok {w : World} {p : Program} {loose : List Str} {mean : ExcName → Option Value} {mg mb : Str → Option Value}
    {dp un : Nat} {gd : Option (List Code)} {cn : Str} {cs : Scope} {a : Addr} {ccd : Value} {cl : List (Str × Addr)} {outer : List Env} {A₀ : Around} {base h₀ : Heap} {L : Addr} {m : Str → Option Value} {s : Shared} {Q E : Value → Shared → Prop}
    {src : Addr} {x y : Int} {tx ty : Tok} {n : Nat} {rest : List (Addr × Obj)}
    (XB : (Mine.hd.heap_39 w.params).In base) (TB : Top p loose mean mg mb base) (D : KtsDicts (outer.filterMap (·.frame)) h₀)
    (B : Below A₀ base outer h₀) (F : Fr h₀ L s.heap m) (X : (Mine.hd.heap_39 w.params).In h₀) (N : News h₀ L s.heap ((src, listOf #[.int x tx, .int y ty] n) :: rest)) (T : Top p loose mean mg mb h₀)
    (hk : cs.kind = .function) (hr : ∀ p ∈ rest, p.1 ≠ src) (hx : 0 ≤ x) (hy : 0 ≤ y) (hy2 : y < 2147483647) (hd : dp + 60 < recursionLimit) (hu : un + 1000 < cLine)
    (ret : ∀ h₀' x' tx' y' ty' n' h' tk', KtsTurn (outer.filterMap (·.frame)) h₀ h₀' → Fr h₀' L h' m → News h₀' L h' ((src, listOf #[.int x' tx', .int y' ty'] n') :: rest) → Below A₀ base outer h₀' → (Mine.hd.heap_39 w.params).In h₀' → Top p loose mean mg mb h₀' → KtsDicts (outer.filterMap (·.frame)) h₀' → 0 ≤ x' → 0 ≤ y' → y' < 2147483647 →
      Q (.bool true) { s with heap := h', toks := tk' }) :
    wpAny (model PySem.Challenge.rw_nt0538_01.row.prog w) (ktrTop dp un gd cn cs L a ccd cl outer) (call (.ref 165) [.ref src]) Q E s := by
  revert X; k_fill; intro X
  refine wpAny_call ?_
  k_dflt (walk_at "enter TC")
  k_steps
  unfold Stop
  (rename News _ _ _ _ => N0)
  k_dflt (refine LCg.CompSrc.range (n := 4) (by rfl) (by k_asm) N0 (by assumption) (by decide) (by decide) (by rw [PySem.sizeLine_eq]; omega) ?_)
  intro g8
  refine comp_inv (DrawJ [_] rest src (fun v => 1 ≤ v ∧ v ≤ 255)) (DrawJ.zero (pre := [_]) (by assumption) (by assumption) (by assumption)) ?turn ?fin
  case turn =>
    rintro i ys nw hi ⟨x2, tx2, y2, ty2, n2, ns2, rfl, hx2, hy2, hyy2, hI2, hl2, hg2⟩ v I' oI' C' oC' D' m' h' tk' E' ⟨t9, rfl⟩ hC' hx' F' N' off' ne'
    have off2 := off'
    simp only [LCg.Off3, List.cons_append, List.nil_append] at off' N'
    (try k_fold)
    k_steps
    exact draw_end (pre := [_]) (by k_asm) (by k_asm) off2 trivial hI2 hl2 hg2 (by assumption) (by assumption) (by assumption) (by omega)
  case fin =>
    rintro ys nw ⟨x2, tx2, y2, ty2, n2, ns2, rfl, hx2, hy2, hyy2, hI2, hl2, hg2⟩
    obtain ⟨a1, a2, a3, a4, t1, t2, t3, t4, rfl, rfl⟩ := four hI2 hl2
    have hb1 := hg2 a1 (by simp)
    have hb2 := hg2 a2 (by simp)
    have hb3 := hg2 a3 (by simp)
    have hb4 := hg2 a4 (by simp)
    unfold LCg.FinE
    intro D9 h9 tk9 F9 N9 o9
    simp only [List.cons_append, List.nil_append] at N9 o9
    (try k_fold)
    have hDs : (D9 : Nat) ≠ src := Ne.symm o9.2.1
    have hDc := o9.1
    clear o9
    k_steps
    unfold Stop
    (rename Fr _ _ _ _ => F0)
    (rename News _ _ _ _ => NA)
    (rename Below _ _ _ _ => B0)
    (rename Frag.In _ _ => X0)
    (rename Top _ _ _ _ _ _ => T0)
    (rename KtsDicts _ _ => D0)
    have N0 := pick_news NA
    clear NA
    have hls := ne_of_size N0 (.tail _ (.head _)) (.head _) (by simp)
    have hr0 := ne_of_news N0 (by k_all)
    (repeat (rename (_ : Nat) < _ ∧ _ => hz; clear hz))
    refine ref_no (qs := [a1, a2, a3, a4]) (qvs := [.int a1 t1, .int a2 t2, .int a3 t3, .int a4 t4]) B0 F0 X0 N0 (by k_mem) T0 ?_ (.cons _ _ (.cons _ _ (.cons _ _ (.cons _ _ .nil)))) rfl ?_ ?_ ?_ (fun h1' tk1' F1 N1 => ?_)
    · first | exact rfl | assumption
    · intro v hv
      simp only [List.mem_cons, List.not_mem_nil, or_false] at hv
      rcases hv with rfl | rfl | rfl | rfl <;> assumption
    · ktr_room
    · ktr_units
    clear F0 N0
    dsimp only
    k_steps
    unfold Stop
    (rename Fr _ _ _ _ => F0)
    (rename News _ _ _ _ => N0)
    refine ref_no (qs := [a1, a2, a3, 256]) (qvs := [.int a1 t1, .int a2 t2, .int a3 t3, .int 256 _]) B0 F0 X0 N0 (by k_mem) T0 ?_ (.cons _ _ (.cons _ _ (.cons _ _ (.cons _ _ .nil)))) rfl ?_ ?_ ?_ (fun h1' tk1' F1 N1 => ?_)
    · first | exact rfl | assumption
    · intro v hv
      simp only [List.mem_cons, List.not_mem_nil, or_false] at hv
      rcases hv with rfl | rfl | rfl | rfl <;> omega
    · ktr_room
    · ktr_units
    clear F0 N0
    dsimp only
    k_steps
    unfold Stop
    (rename Fr _ _ _ _ => F0)
    (rename News _ _ _ _ => N0)
    refine bad_any (n := 0) (its := [_, _, _, _, _]) N0 (by k_mem) (by assumption) (by show _ < (5 : Int); assumption) (Nat.le_of_ble_eq_true rfl) ?hP (fun v hv => ?_) (by with_unfolding_all rfl)
    case hP =>
      intro v hv
      simp only [List.mem_cons, List.not_mem_nil, or_false] at hv
      rcases hv with rfl | rfl | rfl | rfl | rfl
      · exact ⟨_, [.int a1 t1, .int a2 t2, .int a3 t3], [a1, a2, a3], rfl, by k_mem, .cons _ _ (.cons _ _ (.cons _ _ .nil)), by simp, .inl (by simp)⟩
      · exact ⟨_, [.int a1 t1, .int a2 t2, .int a3 t3, .int a4 t4, .int 1 _], [a1, a2, a3, a4, 1], rfl, by k_mem, .cons _ _ (.cons _ _ (.cons _ _ (.cons _ _ (.cons _ _ .nil)))), by simp, .inl (by simp)⟩
      · exact ⟨_, [.int a1 t1, .int a2 t2, .int 0 _, .int 1 _], [a1, a2, 0, 1], rfl, by k_mem, .cons _ _ (.cons _ _ (.cons _ _ (.cons _ _ .nil))), by simp, .inr ⟨0, by simp, by omega⟩⟩
      · exact ⟨_, [.int a1 t1, .int a2 t2, .int a3 t3, .int 256 _], [a1, a2, a3, 256], rfl, by k_mem, .cons _ _ (.cons _ _ (.cons _ _ (.cons _ _ .nil))), by simp, .inr ⟨256, by simp, by omega⟩⟩
      · exact ⟨_, [.int (-1) _, .int a2 t2, .int a3 t3, .int a4 t4], [-1, a2, a3, a4], rfl, by k_mem, .cons _ _ (.cons _ _ (.cons _ _ (.cons _ _ .nil))), by simp, .inr ⟨-1, by simp, by omega⟩⟩
    obtain ⟨r5, vs5, ns5, rfl, hm5, hI5, hl5, hbad5⟩ := hv
    k_steps
    unfold Stop
    refine ref_yes XB TB D0 B0 F0 X0 N0 hm5 T0 ?_ hI5 hl5 hbad5 ?_ ?_ (fun g2 h2' tk2' K2 F2 N2 B2 X2 T2 D2 => ?_)
    · first | exact rfl | assumption
    · ktr_room
    · ktr_units
    clear F0 N0 B0 X0 T0 D0 hm5
    dsimp only
    k_steps
    unfold Stop
    (rename Fr _ _ _ _ => F0)
    (rename News _ _ _ _ => N0)
    (rename _ = List.map (scv (qsc (90 + _)) 255) _ => hns)
    (rename IntsAre _ _ => hIq)
    rw [hns] at hIq
    refine qof_call (bs := [100, 37]) (bvs := [.int 100 _, .int 37 _]) B2 F0 X2 N0 (by k_mem) (by k_mem) T2 ?_ hIq (by simp) (.cons _ _ (.cons _ _ .nil)) (by simp) ?_ ?_ (some _) (of_1 (by omega) (by omega)) (fun v h9' tk9' F9 N9 hv => ?_)
    · first | exact rfl | assumption
    · ktr_room
    · ktr_units
    obtain ⟨t9, rfl⟩ := hv
    clear F0 N0
    dsimp only
    k_steps
    · exfalso
      first
        | omega
        | simp_all
    unfold Stop
    (rename Fr _ _ _ _ => F0)
    (rename News _ _ _ _ => N0)
    refine qof_call (qs := [1, 1]) (qvs := [.int 1 _, .int 1 _]) (bs := [1, 1]) (bvs := [.int 1 _, .int 1 _]) B2 F0 X2 N0 (by k_mem) (by k_mem) T2 ?_ (.cons _ _ (.cons _ _ .nil)) (by simp) (.cons _ _ (.cons _ _ .nil)) (by simp) ?_ ?_ (some 100) of_2 (fun v h9' tk9' F9 N9 hv => ?_)
    · first | exact rfl | assumption
    · ktr_room
    · ktr_units
    obtain ⟨t10, rfl⟩ := hv
    clear F0 N0
    dsimp only
    k_steps
    unfold Stop
    (rename Fr _ _ _ _ => F0)
    (rename News _ _ _ _ => N0)
    refine qof_call (qs := [255, 1]) (qvs := [.int 255 _, .int 1 _]) (bs := [100, 37]) (bvs := [.int 100 _, .int 37 _]) B2 F0 X2 N0 (by k_mem) (by k_mem) T2 ?_ (.cons _ _ (.cons _ _ .nil)) (by simp) (.cons _ _ (.cons _ _ .nil)) (by simp) ?_ ?_ none of_3 (fun v h9' tk9' F9 N9 hv => ?_)
    · first | exact rfl | assumption
    · ktr_room
    · ktr_units
    obtain rfl := hv
    clear F0 N0
    dsimp only
    k_steps
    unfold Stop
    refine ⟨g2, _, _, _, K2, by k_asm, by k_asm, fun h₀' Tk F7 N7 B7 X7 T7 D7 => ?_⟩
    refine ret h₀' _ _ _ _ _ _ _ Tk F7 (cb_drop N7 (by kcf_all)) B7 X7 T7 D7 ?_ ?_ ?_
    all_goals assumption
end
-- P1
section
open PySem.Calls
theorem words_28 : True := by
  k_with_none
  k_with "own k_all" => (assumption)
  k_with "my subscriptTail Name Constant ref int" => (k_here; (with_reducible show wpAny _ _ (subscriptTail _ _ (Value.ref _) (Value.int _ _)) _ _ _); (with_unfolding_all refine' item_litK ?k1 ?k2 ?k3 ?k4 ?_ ?k6; (case k1 => is_list); (case k2 => decide); (case k3 => decide); (case k4 => rfl); (case k6 => with_unfolding_all rfl); k_whole))
  k_with "my take asks" => ( (case k2 => k_asm); (case k1 => k_asm); (case k3 => k_asm); (case k5 => k_asm); (case kK => first | exact rfl | assumption); (case kr => k_all); (case kx => assumption); (case ky => assumption); (case ky2 => assumption); (case kt => first | decide | omega); (case kt2 => first | decide | omega); (case kd => ktr_room); (case ku => ktr_units); intro _ _ _ _ _ _ _ _ _ _ N' _ _ _ _ _; (try simp only [List.nil_append, List.cons_append] at N'); (try dsimp only); (try k_fold); (have N' := True.intro))
  k_with "my call ref" => (k_here; (with_reducible show wpAny _ _ (call (Value.ref 124) _) _ _ _); k_dflt (first | (refine' take_call (pre := []) ?k1 ?k2 ?k3 ?k4 ?k5 ?kK ?kr ?kx ?ky ?ky2 ?kt ?kt2 ?kd ?ku ?_; (case k4 => assumption); walk_at "take asks") | (refine' take_call (pre := [_]) ?k1 ?k2 ?k3 ?k4 ?k5 ?kK ?kr ?kx ?ky ?ky2 ?kt ?kt2 ?kd ?ku ?_; (case k4 => assumption); walk_at "take asks") | (refine' take_call (pre := [_, _]) ?k1 ?k2 ?k3 ?k4 ?k5 ?kK ?kr ?kx ?ky ?ky2 ?kt ?kt2 ?kd ?ku ?_; (case k4 => assumption); walk_at "take asks") | (refine' take_call (pre := [_, _, _]) ?k1 ?k2 ?k3 ?k4 ?k5 ?kK ?kr ?kx ?ky ?ky2 ?kt ?kt2 ?kd ?ku ?_; (case k4 => assumption); walk_at "take asks") | (refine' take_call (pre := [_, _, _, _]) ?k1 ?k2 ?k3 ?k4 ?k5 ?kK ?kr ?kx ?ky ?ky2 ?kt ?kt2 ?kd ?ku ?_; (case k4 => assumption); walk_at "take asks") | (refine' take_call (pre := [_, _, _, _, _]) ?k1 ?k2 ?k3 ?k4 ?k5 ?kK ?kr ?kx ?ky ?ky2 ?kt ?kt2 ?kd ?ku ?_; (case k4 => assumption); walk_at "take asks") | (refine' take_call (pre := [_, _, _, _, _, _]) ?k1 ?k2 ?k3 ?k4 ?k5 ?kK ?kr ?kx ?ky ?ky2 ?kt ?kt2 ?kd ?ku ?_; (case k4 => assumption); walk_at "take asks")))
  k_with "own k_all" => (first | assumption | exact lt_ne0 (by assumption) (by omega) | exact lt_ne1 (by assumption) (by omega) | exact lt_ne2 (by assumption) (by omega) | exact lt_ne3 (by assumption) (by omega))
  k_with "my enter C" => (refine' code_defC ?k1 ?k2 ?k3 ?k4 ?k5 ?kA ?kF ?kK ?k6 ?k7 ?k8 ?k9 ?kB ?kD ?_ ?c2 ?c3 ?c4; (case kA => exact rfl); (case kF => exact rfl); (case kK => assumption); (case k1 => k_asm); (case k2 => k_asm); (case k3 => k_asm); (case k4 => k_asm); (case k5 => k_asm); (case k6 => k_is); (case k7 => k_is); (case k8 => ktr_room); (case k9 => exact BindsTo.of_eq rfl); (case kB => exact rfl); (case kD => decide +kernel); (case c2 => exact rfl); (case c3 => exact rfl); (case c4 => exact rfl); k_whole; intro _ _ _ _ _ _ _ N' Y' B' _ _ l1; (have l2 := l1); (try k_lt l1); k_cells Y'; (try simp only [List.cons_append, List.nil_append] at N'); (try dsimp only); (try k_lift B'); (try k_fold); (have N' := True.intro); (have Y' := True.intro); (have B' := True.intro); (have l1 := True.intro); (have l2 := True.intro))
  k_with "my subscriptTail" => (k_here; (with_reducible show wpAny _ _ (subscriptTail (PySem.Expr.List _ _) _ (Value.ref _) (Value.int _ _)) _ _ _); (with_unfolding_all (first | (refine' item_menuB 1 65535 ?k1 ?k2 ?k3 ?k4 ?k5 ?kb ?_; (case k1 => is_list); (case k2 => l_ints); (case kb => decide); (case k3 => l_idx); (case k4 => l_idx); (case k5 => l_idx); k_whole) | (refine' item_menuB (-7) 130 ?k1 ?k2 ?k3 ?k4 ?k5 ?kb ?_; (case k1 => is_list); (case k2 => l_ints); (case kb => decide); (case k3 => l_idx); (case k4 => l_idx); (case k5 => l_idx); k_whole))); intro _ _ _ _)
  k_with "my eval ListComp" => (k_here; k_dflt (refine LCg.ListComp_U (F₀ := by k_asm) (by with_unfolding_all rfl) (by decide) (by rfl) (by decide) (by rfl) ?_))
  k_with "my CompSrc" => (k_here; k_dflt (refine LCg.CompSrc.range (by rfl) (by k_asm) (by k_asm) (by assumption) (by first | exact small_one (by kcf_bnd) (by kcf_bnd) (by kcf_bnd) (by kcf_bnd) | decide) (by first | exact rangeSize_nat _ _ | rfl) (by first | (rw [PySem.sizeLine_eq]; omega) | (rw [PySem.sizeLine_eq]; (simp only [List.size_toArray]); omega) | size_fits) ?_; intro _))
  k_with "my CompRest" => (fail "mine")
  k_with "my compareOp Eq ref ref" => (k_here; k_dflt (first | (refine' tup_eq ?k1 ?k2 ?k3 ?k4 ?k5 ?_; (case k1 => exact News.isTup (by k_asm) (by k_mem)); (case k2 => exact News.isTup (by k_asm) (by k_mem)); (case k3 => l_ints); (case k4 => l_ints); (case k5 => ktr_units); k_whole) | (refine' eq_intsK ?k1 ?k2 ?k3 ?k4 ?k5 ?_; (case k1 => is_list); (case k2 => l_ints); (case k3 => is_list); (case k4 => l_ints); (case k5 => ktr_units); k_whole)))
  k_with "my compareOp NotEq ref ref" => (k_here; k_dflt (first | (refine' tup_ne ?k1 ?k2 ?k3 ?k4 ?k5 ?_; (case k1 => exact News.isTup (by k_asm) (by k_mem)); (case k2 => exact News.isTup (by k_asm) (by k_mem)); (case k3 => l_ints); (case k4 => l_ints); (case k5 => ktr_units); k_whole) | (refine' ne_intsK ?k1 ?k2 ?k3 ?k4 ?k5 ?_; (case k1 => is_list); (case k2 => l_ints); (case k3 => is_list); (case k4 => l_ints); (case k5 => ktr_units); k_whole)))
  k_with "my call type:tuple" => (k_here; (with_reducible show wpAny _ _ (call (Value.type _) [Value.ref _]) _ _ _); k_dflt (refine' call_tuple_tup ?k1 ?_; (case k1 => exact News.isTup (by k_asm) (by k_mem)); k_whole))
  k_with "my call builtin:len" => (k_here; (with_reducible show wpAny _ _ (call (Value.builtin "len") [Value.ref _]) _ _ _); k_dflt (refine' len_tupI ?k1 ?k2 ?k3 ?_; (case k1 => exact News.isTup (by k_asm) (by k_mem)); (case k2 => l_ints); (case k3 => omega); k_whole))
  k_with "my drops" => (first | exact Drops.here | (refine' Drops.there ?kq; (case kq => (walk_at "drops"))))
  k_with "my pool asks" => ((case k2 => k_asm); (case k1 => k_asm); (case k3 => k_asm); (case k5 => k_asm); (case kN => assumption); (case kD => (walk_at "drops")); (case kK => first | exact rfl | assumption); (case kr => k_all); (case kx => assumption); (case ky => assumption); (case ky2 => assumption); (case kt => first | decide | omega); (case kt2 => first | decide | omega); (case kd => ktr_room); (case ku => ktr_units))
  k_with "my call ref" => (k_here; (with_reducible show wpAny _ _ (call (Value.ref 124) _) _ _ _); k_dflt (refine' take_ok ?k1 ?k2 ?k3 (drops_news ?kN ?kD) ?k5 ?kK ?kr ?kx ?ky ?ky2 ?kt ?kt2 ?kd ?ku ?_; (walk_at "pool asks"); intro _ _ _ _ _ _ _ _ _ _ _ _ _ _ _ _; (try dsimp only); (try k_fold)))
  k_with "my call ref" => (k_here; (with_reducible show wpAny _ _ (call (Value.ref 131) _) _ _ _); k_dflt (refine' number_ok ?k1 ?k2 ?k3 (drops_news ?kN ?kD) ?k5 ?kK ?kr ?kx ?ky ?ky2 ?kt ?kt2 ?kd ?ku ?_; (walk_at "pool asks"); intro _ _ _ _ _ _ _ _ _ _ _ _ _ _ _ _; (try dsimp only); (try k_fold)))
  k_with "my call ref" => (k_here; (with_reducible show wpAny _ _ (call (Value.ref 136) _) _ _ _); k_dflt (refine' table_ok ?k1 ?k2 ?k3 (drops_news ?kN ?kD) ?k5 ?kK ?kr ?kx ?ky ?ky2 ?kt ?kd ?ku ?kt2 ?_; (walk_at "pool asks"); intro _ _ _ _ _ _ _ _ _ _ _ _ ne' hof' _ _ _ _ _ _; (replace ne' := NE.mk ne'); (replace hof' := AllNE.of hof'); revert ne' hof'; intro _ _; (try dsimp only); (try k_fold)))
  k_with "my call ref" => (k_here; (with_reducible show wpAny _ _ (call (Value.ref 65) _) _ _ _); k_dflt (refine' sctab_call ?k1 ?k2 ?k3 ?k4 ?m1 ?k5 ?kK ?i1 ?l1 ?kd ?ku ?_; (case k2 => k_asm); (case k1 => k_asm); (case k3 => k_asm); (case k4 => k_asm); (case k5 => k_asm); (case m1 => k_mem); (case kK => first | exact rfl | assumption); (case i1 => l_ints); (case l1 => first | omega | decide); (case kd => ktr_room); (case ku => ktr_units); intro _ _ _ _ _ _ _ _ _ _ hof'; (replace hof' := AllNE.of hof'); revert hof'; intro _; (try dsimp only); (try k_fold)))
  k_with "my call ref" => (k_here; (with_reducible show wpAny _ _ (call (Value.ref 79) _) _ _ _); k_dflt (refine' prec_call ?k1 ?k2 ?k3 ?k4 ?m1 ?k5 ?kK ?i1 ?kd ?ku ?_; (case k2 => k_asm); (case k1 => k_asm); (case k3 => k_asm); (case k4 => k_asm); (case k5 => k_asm); (case m1 => k_mem); (case kK => first | exact rfl | assumption); (case i1 => l_ints); (case kd => ktr_room); (case ku => ktr_units); intro _ _ _ _ _ _ _; (try dsimp only); (try k_fold)))
  k_with "my call builtin:min" => (k_here; (with_reducible show wpAny _ _ (call (Value.builtin "min") [Value.int _ _, Value.int _ _]) _ _ _); k_dflt (refine' min_op ?kh ?kF ?kN ?_; (case kh => rfl); (case kF => k_asm); (case kN => k_asm)); intro _ _ _ _ _ _ _; (try dsimp only); (try k_fold))
  k_with "my call builtin:max" => (k_here; (with_reducible show wpAny _ _ (call (Value.builtin "max") [Value.int _ _, Value.int _ _]) _ _ _); k_dflt (refine' max_op ?kh ?kF ?kN ?_; (case kh => rfl); (case kF => k_asm); (case kN => k_asm)); intro _ _ _ _ _ _ _; (try dsimp only); (try k_fold))
  k_with "my storeName" => (k_here; first | ((with_reducible show wpAny _ _ (storeName _ (Str.ofString "hundredths") (Value.int (Int.fdiv _ _) _)) _ _ _); refine gen_store ?_; intro _ _ _) | ((with_reducible show wpAny _ _ (storeName _ (Str.ofString "hundredths") (Value.int (_ - _) _)) _ _ _); refine gen_store ?_; intro _ _ _) | ((with_reducible show wpAny _ _ (storeName _ (Str.ofString "plain") (Value.int (Int.fdiv _ _) _)) _ _ _); refine gen_store ?_; intro _ _ _))
  trivial
theorem list_keeps {h h' : Heap} {l : Addr} {xs : Array Value} (x : h.IsList l xs) (k : ∀ b o, h.get? b = some o → h'.get? b = some o) : h'.IsList l xs :=
  let ⟨o, e, r⟩ := x; ⟨o, k _ _ e, r⟩
theorem allLt_lt {d : Nat} : ∀ {l : List (Addr × Obj)}, AllLt d l → ∀ p ∈ l, p.1 < d
  | [], _, _, h => nomatch h
  | _ :: _, x, p, h => by
    rcases List.mem_cons.mp h with rfl | h
    · exact x.1
    · exact allLt_lt x.2 p h
theorem len_listI {prog : Program} {w : World} {A : Around} {E : Value → Shared → Prop} {s : Shared} {t : Addr} {vs : List Value} {ns : List Int} {Q : Value → Shared → Prop} (ht : s.heap.IsList t vs.toArray) (hi : IntsAre vs ns) (hfit : ns.length ≤ 1000)
    (h : Q (.int (ns.length : Nat) (s.toks + 1)) { s with toks := s.toks + 1 + 1 }) : wpAny (model prog w) A (call (.builtin "len") [.ref t]) Q E s := by
  have e : vs.toArray.size = ns.length := by simp [hi.length]
  refine PyProof.Rows.len_list ht (by rw [e]; omega) ?_
  rw [e]; exact h
theorem item_listI {prog : Program} {w : World} {A : Around} {E : Value → Shared → Prop} {s : Shared} {value slice : PySem.Expr} {l : Addr} {vs : List Value} {ns : List Int} {k : Int} {u : Tok} {Q : Value → Shared → Prop} (hl : s.heap.IsList l vs.toArray) (hI : IntsAre vs ns)
    (h0 : 0 ≤ k) (h1 : k < ns.length) (hfit : ns.length ≤ 1000) (h : ∀ v t, Q (.int v t) s)
    (hs : subscripted slice false (.ref l) (.int k u) = operate [.ref l, .int k u] (getItem (.ref l) (.int k u)) := by with_unfolding_all rfl) :
    wpAny (model prog w) A (subscriptTail value slice (.ref l) (.int k u)) Q E s := by
  obtain ⟨t, hx⟩ := hI.get k.toNat _ (ints_getD h0 h1)
  exact item_litK hl h0 (by omega) hx (h _ t) hs
theorem words_29 : True := by
  k_with_none
  k_with "own k_all" => (assumption)
  k_with "my subscriptTail Name Constant ref int" => (k_here; (with_reducible show wpAny _ _ (subscriptTail _ _ (Value.ref _) (Value.int _ _)) _ _ _); (with_unfolding_all refine' item_litK ?k1 ?k2 ?k3 ?k4 ?_ ?k6; (case k1 => is_list); (case k2 => decide); (case k3 => decide); (case k4 => rfl); (case k6 => with_unfolding_all rfl); k_whole))
  k_with "my take asks" => ( (case k2 => k_asm); (case k1 => k_asm); (case k3 => k_asm); (case k5 => k_asm); (case kK => first | exact rfl | assumption); (case kr => k_all); (case kx => assumption); (case ky => assumption); (case ky2 => assumption); (case kt => first | decide | omega); (case kt2 => first | decide | omega); (case kd => ktr_room); (case ku => ktr_units); intro _ _ _ _ _ _ _ _ _ _ N' _ _ _ _ _; (try simp only [List.nil_append, List.cons_append] at N'); (try dsimp only); (try k_fold); (have N' := True.intro))
  k_with "my call ref" => (k_here; (with_reducible show wpAny _ _ (call (Value.ref 124) _) _ _ _); k_dflt (first | (refine' take_call (pre := []) ?k1 ?k2 ?k3 ?k4 ?k5 ?kK ?kr ?kx ?ky ?ky2 ?kt ?kt2 ?kd ?ku ?_; (case k4 => assumption); walk_at "take asks") | (refine' take_call (pre := [_]) ?k1 ?k2 ?k3 ?k4 ?k5 ?kK ?kr ?kx ?ky ?ky2 ?kt ?kt2 ?kd ?ku ?_; (case k4 => assumption); walk_at "take asks") | (refine' take_call (pre := [_, _]) ?k1 ?k2 ?k3 ?k4 ?k5 ?kK ?kr ?kx ?ky ?ky2 ?kt ?kt2 ?kd ?ku ?_; (case k4 => assumption); walk_at "take asks") | (refine' take_call (pre := [_, _, _]) ?k1 ?k2 ?k3 ?k4 ?k5 ?kK ?kr ?kx ?ky ?ky2 ?kt ?kt2 ?kd ?ku ?_; (case k4 => assumption); walk_at "take asks") | (refine' take_call (pre := [_, _, _, _]) ?k1 ?k2 ?k3 ?k4 ?k5 ?kK ?kr ?kx ?ky ?ky2 ?kt ?kt2 ?kd ?ku ?_; (case k4 => assumption); walk_at "take asks") | (refine' take_call (pre := [_, _, _, _, _]) ?k1 ?k2 ?k3 ?k4 ?k5 ?kK ?kr ?kx ?ky ?ky2 ?kt ?kt2 ?kd ?ku ?_; (case k4 => assumption); walk_at "take asks") | (refine' take_call (pre := [_, _, _, _, _, _]) ?k1 ?k2 ?k3 ?k4 ?k5 ?kK ?kr ?kx ?ky ?ky2 ?kt ?kt2 ?kd ?ku ?_; (case k4 => assumption); walk_at "take asks")))
  k_with "own k_all" => (first | assumption | exact lt_ne0 (by assumption) (by omega) | exact lt_ne1 (by assumption) (by omega) | exact lt_ne2 (by assumption) (by omega) | exact lt_ne3 (by assumption) (by omega))
  k_with "my enter C" => (refine' code_defC ?k1 ?k2 ?k3 ?k4 ?k5 ?kA ?kF ?kK ?k6 ?k7 ?k8 ?k9 ?kB ?kD ?_ ?c2 ?c3 ?c4; (case kA => exact rfl); (case kF => exact rfl); (case kK => assumption); (case k1 => k_asm); (case k2 => k_asm); (case k3 => k_asm); (case k4 => k_asm); (case k5 => k_asm); (case k6 => k_is); (case k7 => k_is); (case k8 => ktr_room); (case k9 => exact BindsTo.of_eq rfl); (case kB => exact rfl); (case kD => decide +kernel); (case c2 => exact rfl); (case c3 => exact rfl); (case c4 => exact rfl); k_whole; intro _ _ _ _ _ _ _ N' Y' B' _ _ l1; (have l2 := l1); (try k_lt l1); k_cells Y'; (try simp only [List.cons_append, List.nil_append] at N'); (try dsimp only); (try k_lift B'); (try k_fold); (have N' := True.intro); (have Y' := True.intro); (have B' := True.intro); (have l1 := True.intro); (have l2 := True.intro))
  k_with "my subscriptTail" => (k_here; (with_reducible show wpAny _ _ (subscriptTail (PySem.Expr.List _ _) _ (Value.ref _) (Value.int _ _)) _ _ _); (with_unfolding_all (first | (refine' item_menuB 1 65535 ?k1 ?k2 ?k3 ?k4 ?k5 ?kb ?_; (case k1 => is_list); (case k2 => l_ints); (case kb => decide); (case k3 => l_idx); (case k4 => l_idx); (case k5 => l_idx); k_whole) | (refine' item_menuB (-7) 130 ?k1 ?k2 ?k3 ?k4 ?k5 ?kb ?_; (case k1 => is_list); (case k2 => l_ints); (case kb => decide); (case k3 => l_idx); (case k4 => l_idx); (case k5 => l_idx); k_whole))); intro _ _ _ _)
  k_with "my eval ListComp" => (k_here; k_dflt (refine LCg.ListComp_U (F₀ := by k_asm) (by with_unfolding_all rfl) (by decide) (by rfl) (by decide) (by rfl) ?_))
  k_with "my CompSrc" => (k_here; k_dflt (refine LCg.CompSrc.range (by rfl) (by k_asm) (by k_asm) (by assumption) (by first | exact small_one (by kcf_bnd) (by kcf_bnd) (by kcf_bnd) (by kcf_bnd) | decide) (by first | exact rangeSize_nat _ _ | rfl) (by first | (rw [PySem.sizeLine_eq]; omega) | (rw [PySem.sizeLine_eq]; (simp only [List.size_toArray]); omega) | size_fits) ?_; intro _))
  k_with "my CompRest" => (fail "mine")
  k_with "my compareOp Eq ref ref" => (k_here; k_dflt (first | (refine' tup_eq ?k1 ?k2 ?k3 ?k4 ?k5 ?_; (case k1 => exact News.isTup (by k_asm) (by k_mem)); (case k2 => exact News.isTup (by k_asm) (by k_mem)); (case k3 => l_ints); (case k4 => l_ints); (case k5 => ktr_units); k_whole) | (refine' eq_intsK ?k1 ?k2 ?k3 ?k4 ?k5 ?_; (case k1 => is_list); (case k2 => l_ints); (case k3 => is_list); (case k4 => l_ints); (case k5 => ktr_units); k_whole)))
  k_with "my compareOp NotEq ref ref" => (k_here; k_dflt (first | (refine' tup_ne ?k1 ?k2 ?k3 ?k4 ?k5 ?_; (case k1 => exact News.isTup (by k_asm) (by k_mem)); (case k2 => exact News.isTup (by k_asm) (by k_mem)); (case k3 => l_ints); (case k4 => l_ints); (case k5 => ktr_units); k_whole) | (refine' ne_intsK ?k1 ?k2 ?k3 ?k4 ?k5 ?_; (case k1 => is_list); (case k2 => l_ints); (case k3 => is_list); (case k4 => l_ints); (case k5 => ktr_units); k_whole)))
  k_with "my call type:tuple" => (k_here; (with_reducible show wpAny _ _ (call (Value.type _) [Value.ref _]) _ _ _); k_dflt (refine' call_tuple_tup ?k1 ?_; (case k1 => exact News.isTup (by k_asm) (by k_mem)); k_whole))
  k_with "my call builtin:len" => (k_here; (with_reducible show wpAny _ _ (call (Value.builtin "len") [Value.ref _]) _ _ _); k_dflt (refine' len_tupI ?k1 ?k2 ?k3 ?_; (case k1 => exact News.isTup (by k_asm) (by k_mem)); (case k2 => l_ints); (case k3 => omega); k_whole))
  k_with "my drops" => (first | exact Drops.here | (refine' Drops.there ?kq; (case kq => (walk_at "drops"))))
  k_with "my pool asks" => ((case k2 => k_asm); (case k1 => k_asm); (case k3 => k_asm); (case k5 => k_asm); (case kN => assumption); (case kD => (walk_at "drops")); (case kK => first | exact rfl | assumption); (case kr => k_all); (case kx => assumption); (case ky => assumption); (case ky2 => assumption); (case kt => first | decide | omega); (case kt2 => first | decide | omega); (case kd => ktr_room); (case ku => ktr_units))
  k_with "my call ref" => (k_here; (with_reducible show wpAny _ _ (call (Value.ref 124) _) _ _ _); k_dflt (refine' take_ok ?k1 ?k2 ?k3 (drops_news ?kN ?kD) ?k5 ?kK ?kr ?kx ?ky ?ky2 ?kt ?kt2 ?kd ?ku ?_; (walk_at "pool asks"); intro _ _ _ _ _ _ _ _ _ _ _ _ _ _ _ _; (try dsimp only); (try k_fold)))
  k_with "my call ref" => (k_here; (with_reducible show wpAny _ _ (call (Value.ref 131) _) _ _ _); k_dflt (refine' number_ok ?k1 ?k2 ?k3 (drops_news ?kN ?kD) ?k5 ?kK ?kr ?kx ?ky ?ky2 ?kt ?kt2 ?kd ?ku ?_; (walk_at "pool asks"); intro _ _ _ _ _ _ _ _ _ _ _ _ _ _ _ _; (try dsimp only); (try k_fold)))
  k_with "my call ref" => (k_here; (with_reducible show wpAny _ _ (call (Value.ref 136) _) _ _ _); k_dflt (refine' table_ok ?k1 ?k2 ?k3 (drops_news ?kN ?kD) ?k5 ?kK ?kr ?kx ?ky ?ky2 ?kt ?kd ?ku ?kt2 ?_; (walk_at "pool asks"); intro _ _ _ _ _ _ _ _ _ _ _ _ ne' hof' _ _ _ _ _ _; (replace ne' := NE.mk ne'); (replace hof' := AllNE.of hof'); revert ne' hof'; intro _ _; (try dsimp only); (try k_fold)))
  k_with "my call ref" => (k_here; (with_reducible show wpAny _ _ (call (Value.ref 65) _) _ _ _); k_dflt (refine' sctab_call ?k1 ?k2 ?k3 ?k4 ?m1 ?k5 ?kK ?i1 ?l1 ?kd ?ku ?_; (case k2 => k_asm); (case k1 => k_asm); (case k3 => k_asm); (case k4 => k_asm); (case k5 => k_asm); (case m1 => k_mem); (case kK => first | exact rfl | assumption); (case i1 => l_ints); (case l1 => first | omega | decide); (case kd => ktr_room); (case ku => ktr_units); intro _ _ _ _ _ _ _ _ _ _ hof'; (replace hof' := AllNE.of hof'); revert hof'; intro _; (try dsimp only); (try k_fold)))
  k_with "my call ref" => (k_here; (with_reducible show wpAny _ _ (call (Value.ref 79) _) _ _ _); k_dflt (refine' prec_call ?k1 ?k2 ?k3 ?k4 ?m1 ?k5 ?kK ?i1 ?kd ?ku ?_; (case k2 => k_asm); (case k1 => k_asm); (case k3 => k_asm); (case k4 => k_asm); (case k5 => k_asm); (case m1 => k_mem); (case kK => first | exact rfl | assumption); (case i1 => l_ints); (case kd => ktr_room); (case ku => ktr_units); intro _ _ _ _ _ _ _; (try dsimp only); (try k_fold)))
  k_with "my call builtin:min" => (k_here; (with_reducible show wpAny _ _ (call (Value.builtin "min") [Value.int _ _, Value.int _ _]) _ _ _); k_dflt (refine' min_op ?kh ?kF ?kN ?_; (case kh => rfl); (case kF => k_asm); (case kN => k_asm)); intro _ _ _ _ _ _ _; (try dsimp only); (try k_fold))
  k_with "my call builtin:max" => (k_here; (with_reducible show wpAny _ _ (call (Value.builtin "max") [Value.int _ _, Value.int _ _]) _ _ _); k_dflt (refine' max_op ?kh ?kF ?kN ?_; (case kh => rfl); (case kF => k_asm); (case kN => k_asm)); intro _ _ _ _ _ _ _; (try dsimp only); (try k_fold))
  k_with "my storeName" => (k_here; first | ((with_reducible show wpAny _ _ (storeName _ (Str.ofString "hundredths") (Value.int (Int.fdiv _ _) _)) _ _ _); refine gen_store ?_; intro _ _ _) | ((with_reducible show wpAny _ _ (storeName _ (Str.ofString "hundredths") (Value.int (_ - _) _)) _ _ _); refine gen_store ?_; intro _ _ _) | ((with_reducible show wpAny _ _ (storeName _ (Str.ofString "plain") (Value.int (Int.fdiv _ _) _)) _ _ _); refine gen_store ?_; intro _ _ _))
  k_with "my call builtin:len" => (k_here; (with_reducible show wpAny _ _ (call (Value.builtin "len") [Value.ref _]) _ _ _); (rename Fr _ _ _ _ => lF9); k_dflt (refine' len_listI ?k1 ?k2 ?k3 ?_; (case k1 => exact list_keeps (by assumption) lF9.keep); (case k2 => assumption); (case k3 => omega); k_whole))
  k_with "my subscriptTail Name Name ref int" => (k_here; (with_reducible show wpAny _ _ (subscriptTail _ _ (Value.ref _) (Value.int _ _)) _ _ _); (rename Fr _ _ _ _ => lF9); k_dflt (refine' item_listI ?k1 ?k2 ?k3 ?k4 ?k5 ?_ ?k6; (case k1 => exact list_keeps (by assumption) lF9.keep); (case k2 => assumption); (case k3 => omega); (case k4 => omega); (case k5 => omega); (case k6 => with_unfolding_all rfl); k_whole); intro _ _)
  trivial
set_option maxRecDepth 100000 in
set_option maxHeartbeats 8000000 in
theorem pool_ok {w : World} {p : Program} {loose : List Str} {mean : ExcName → Option Value} {mg mb : Str → Option Value}
    {dp un : Nat} {gd : Option (List Code)} {cn : Str} {cs : Scope} {a : Addr} {ccd : Value} {cl : List (Str × Addr)} {outer : List Env} {A₀ : Around} {base h₀ : Heap} {L : Addr} {m : Str → Option Value} {s : Shared} {Q E : Value → Shared → Prop}
    {scr : Addr} {svs : List Value} {sns : List Int} {k : Int} {tk : Tok} {news : List (Addr × Obj)}
    (B : Below A₀ base outer h₀) (F : Fr h₀ L s.heap m) (X : (Mine.hd.heap_39 w.params).In h₀) (N : News h₀ L s.heap news) (T : Top p loose mean mg mb h₀)
    (hk : cs.kind = .function) (hS : h₀.IsList scr svs.toArray) (hI : IntsAre svs sns) (hl : sns.length ≤ 63) (hk0 : 0 ≤ k) (hk1 : k < 2) (hd : dp + 5 < recursionLimit) (hu : un + 60 < cLine)
    (ret : ∀ r x tx y ty n h' tk', Fr h₀ L h' m → News h₀ L h' ((r, listOf #[.int x tx, .int y ty] n) :: news) → (∀ p ∈ news, p.1 < r) → 0 ≤ x → 0 ≤ y → y < 2147483647 → Q (.ref r) { s with heap := h', toks := tk' }) :
    wpAny (model PySem.Challenge.rw_nt0538_01.row.prog w) (ktrTop dp un gd cn cs L a ccd cl outer) (call (.ref 117) [.ref scr, .int k tk]) Q E s := by
  revert X; k_fill; intro X
  refine wpAny_call ?_
  k_dflt cell_enter
  rename Fr h₀ _ _ _ => FG
  have hS2 := list_keeps hS FG.keep
  clear hS
  k_steps
  all_goals
    refine ret _ _ _ _ _ _ _ _ (by k_asm) (by k_asm) ?_ ?_ ?_ ?_
  all_goals first
    | exact allLt_lt (by assumption)
    | exact fmod_lo _ (by decide)
    | exact fmod_hi _ (by decide)
    | omega
    | skip
end
-- P2
section
open PySem.Calls
theorem words_30 : True := by
  k_with_none
  k_with "own k_all" => (assumption)
  k_with "my subscriptTail Name Constant ref int" => (k_here; (with_reducible show wpAny _ _ (subscriptTail _ _ (Value.ref _) (Value.int _ _)) _ _ _); (with_unfolding_all refine' item_litK ?k1 ?k2 ?k3 ?k4 ?_ ?k6; (case k1 => is_list); (case k2 => decide); (case k3 => decide); (case k4 => rfl); (case k6 => with_unfolding_all rfl); k_whole))
  k_with "my take asks" => ( (case k2 => k_asm); (case k1 => k_asm); (case k3 => k_asm); (case k5 => k_asm); (case kK => first | exact rfl | assumption); (case kr => k_all); (case kx => assumption); (case ky => assumption); (case ky2 => assumption); (case kt => first | decide | omega); (case kt2 => first | decide | omega); (case kd => ktr_room); (case ku => ktr_units); intro _ _ _ _ _ _ _ _ _ _ N' _ _ _ _ _; (try simp only [List.nil_append, List.cons_append] at N'); (try dsimp only); (try k_fold); (have N' := True.intro))
  k_with "my call ref" => (k_here; (with_reducible show wpAny _ _ (call (Value.ref 124) _) _ _ _); k_dflt (first | (refine' take_call (pre := []) ?k1 ?k2 ?k3 ?k4 ?k5 ?kK ?kr ?kx ?ky ?ky2 ?kt ?kt2 ?kd ?ku ?_; (case k4 => assumption); walk_at "take asks") | (refine' take_call (pre := [_]) ?k1 ?k2 ?k3 ?k4 ?k5 ?kK ?kr ?kx ?ky ?ky2 ?kt ?kt2 ?kd ?ku ?_; (case k4 => assumption); walk_at "take asks") | (refine' take_call (pre := [_, _]) ?k1 ?k2 ?k3 ?k4 ?k5 ?kK ?kr ?kx ?ky ?ky2 ?kt ?kt2 ?kd ?ku ?_; (case k4 => assumption); walk_at "take asks") | (refine' take_call (pre := [_, _, _]) ?k1 ?k2 ?k3 ?k4 ?k5 ?kK ?kr ?kx ?ky ?ky2 ?kt ?kt2 ?kd ?ku ?_; (case k4 => assumption); walk_at "take asks") | (refine' take_call (pre := [_, _, _, _]) ?k1 ?k2 ?k3 ?k4 ?k5 ?kK ?kr ?kx ?ky ?ky2 ?kt ?kt2 ?kd ?ku ?_; (case k4 => assumption); walk_at "take asks") | (refine' take_call (pre := [_, _, _, _, _]) ?k1 ?k2 ?k3 ?k4 ?k5 ?kK ?kr ?kx ?ky ?ky2 ?kt ?kt2 ?kd ?ku ?_; (case k4 => assumption); walk_at "take asks") | (refine' take_call (pre := [_, _, _, _, _, _]) ?k1 ?k2 ?k3 ?k4 ?k5 ?kK ?kr ?kx ?ky ?ky2 ?kt ?kt2 ?kd ?ku ?_; (case k4 => assumption); walk_at "take asks")))
  k_with "own k_all" => (first | assumption | exact lt_ne0 (by assumption) (by omega) | exact lt_ne1 (by assumption) (by omega) | exact lt_ne2 (by assumption) (by omega) | exact lt_ne3 (by assumption) (by omega))
  k_with "my enter C" => (refine' code_defC ?k1 ?k2 ?k3 ?k4 ?k5 ?kA ?kF ?kK ?k6 ?k7 ?k8 ?k9 ?kB ?kD ?_ ?c2 ?c3 ?c4; (case kA => exact rfl); (case kF => exact rfl); (case kK => assumption); (case k1 => k_asm); (case k2 => k_asm); (case k3 => k_asm); (case k4 => k_asm); (case k5 => k_asm); (case k6 => k_is); (case k7 => k_is); (case k8 => ktr_room); (case k9 => exact BindsTo.of_eq rfl); (case kB => exact rfl); (case kD => decide +kernel); (case c2 => exact rfl); (case c3 => exact rfl); (case c4 => exact rfl); k_whole; intro _ _ _ _ _ _ _ N' Y' B' _ _ l1; (have l2 := l1); (try k_lt l1); k_cells Y'; (try simp only [List.cons_append, List.nil_append] at N'); (try dsimp only); (try k_lift B'); (try k_fold); (have N' := True.intro); (have Y' := True.intro); (have B' := True.intro); (have l1 := True.intro); (have l2 := True.intro))
  k_with "my subscriptTail" => (k_here; (with_reducible show wpAny _ _ (subscriptTail (PySem.Expr.List _ _) _ (Value.ref _) (Value.int _ _)) _ _ _); (with_unfolding_all (first | (refine' item_menuB 1 65535 ?k1 ?k2 ?k3 ?k4 ?k5 ?kb ?_; (case k1 => is_list); (case k2 => l_ints); (case kb => decide); (case k3 => l_idx); (case k4 => l_idx); (case k5 => l_idx); k_whole) | (refine' item_menuB (-7) 130 ?k1 ?k2 ?k3 ?k4 ?k5 ?kb ?_; (case k1 => is_list); (case k2 => l_ints); (case kb => decide); (case k3 => l_idx); (case k4 => l_idx); (case k5 => l_idx); k_whole))); intro _ _ _ _)
  k_with "my eval ListComp" => (k_here; k_dflt (refine LCg.ListComp_U (F₀ := by k_asm) (by with_unfolding_all rfl) (by decide) (by rfl) (by decide) (by rfl) ?_))
  k_with "my CompSrc" => (k_here; k_dflt (refine LCg.CompSrc.range (by rfl) (by k_asm) (by k_asm) (by assumption) (by first | exact small_one (by kcf_bnd) (by kcf_bnd) (by kcf_bnd) (by kcf_bnd) | decide) (by first | exact rangeSize_nat _ _ | rfl) (by first | (rw [PySem.sizeLine_eq]; omega) | (rw [PySem.sizeLine_eq]; (simp only [List.size_toArray]); omega) | size_fits) ?_; intro _))
  k_with "my CompRest" => (fail "mine")
  k_with "my compareOp Eq ref ref" => (k_here; k_dflt (first | (refine' tup_eq ?k1 ?k2 ?k3 ?k4 ?k5 ?_; (case k1 => exact News.isTup (by k_asm) (by k_mem)); (case k2 => exact News.isTup (by k_asm) (by k_mem)); (case k3 => l_ints); (case k4 => l_ints); (case k5 => ktr_units); k_whole) | (refine' eq_intsK ?k1 ?k2 ?k3 ?k4 ?k5 ?_; (case k1 => is_list); (case k2 => l_ints); (case k3 => is_list); (case k4 => l_ints); (case k5 => ktr_units); k_whole)))
  k_with "my compareOp NotEq ref ref" => (k_here; k_dflt (first | (refine' tup_ne ?k1 ?k2 ?k3 ?k4 ?k5 ?_; (case k1 => exact News.isTup (by k_asm) (by k_mem)); (case k2 => exact News.isTup (by k_asm) (by k_mem)); (case k3 => l_ints); (case k4 => l_ints); (case k5 => ktr_units); k_whole) | (refine' ne_intsK ?k1 ?k2 ?k3 ?k4 ?k5 ?_; (case k1 => is_list); (case k2 => l_ints); (case k3 => is_list); (case k4 => l_ints); (case k5 => ktr_units); k_whole)))
  k_with "my call type:tuple" => (k_here; (with_reducible show wpAny _ _ (call (Value.type _) [Value.ref _]) _ _ _); k_dflt (refine' call_tuple_tup ?k1 ?_; (case k1 => exact News.isTup (by k_asm) (by k_mem)); k_whole))
  k_with "my call builtin:len" => (k_here; (with_reducible show wpAny _ _ (call (Value.builtin "len") [Value.ref _]) _ _ _); k_dflt (refine' len_tupI ?k1 ?k2 ?k3 ?_; (case k1 => exact News.isTup (by k_asm) (by k_mem)); (case k2 => l_ints); (case k3 => omega); k_whole))
  k_with "my drops" => (first | exact Drops.here | (refine' Drops.there ?kq; (case kq => (walk_at "drops"))))
  k_with "my pool asks" => ((case k2 => k_asm); (case k1 => k_asm); (case k3 => k_asm); (case k5 => k_asm); (case kN => assumption); (case kD => (walk_at "drops")); (case kK => first | exact rfl | assumption); (case kr => k_all); (case kx => assumption); (case ky => assumption); (case ky2 => assumption); (case kt => first | decide | omega); (case kt2 => first | decide | omega); (case kd => ktr_room); (case ku => ktr_units))
  k_with "my call ref" => (k_here; (with_reducible show wpAny _ _ (call (Value.ref 124) _) _ _ _); k_dflt (refine' take_ok ?k1 ?k2 ?k3 (drops_news ?kN ?kD) ?k5 ?kK ?kr ?kx ?ky ?ky2 ?kt ?kt2 ?kd ?ku ?_; (walk_at "pool asks"); intro _ _ _ _ _ _ _ _ _ _ _ _ _ _ _ _; (try dsimp only); (try k_fold)))
  k_with "my call ref" => (k_here; (with_reducible show wpAny _ _ (call (Value.ref 131) _) _ _ _); k_dflt (refine' number_ok ?k1 ?k2 ?k3 (drops_news ?kN ?kD) ?k5 ?kK ?kr ?kx ?ky ?ky2 ?kt ?kt2 ?kd ?ku ?_; (walk_at "pool asks"); intro _ _ _ _ _ _ _ _ _ _ _ _ _ _ _ _; (try dsimp only); (try k_fold)))
  k_with "my call ref" => (k_here; (with_reducible show wpAny _ _ (call (Value.ref 136) _) _ _ _); k_dflt (refine' table_ok ?k1 ?k2 ?k3 (drops_news ?kN ?kD) ?k5 ?kK ?kr ?kx ?ky ?ky2 ?kt ?kd ?ku ?kt2 ?_; (walk_at "pool asks"); intro _ _ _ _ _ _ _ _ _ _ _ _ ne' hof' _ _ _ _ _ _; (replace ne' := NE.mk ne'); (replace hof' := AllNE.of hof'); revert ne' hof'; intro _ _; (try dsimp only); (try k_fold)))
  k_with "my call ref" => (k_here; (with_reducible show wpAny _ _ (call (Value.ref 65) _) _ _ _); k_dflt (refine' sctab_call ?k1 ?k2 ?k3 ?k4 ?m1 ?k5 ?kK ?i1 ?l1 ?kd ?ku ?_; (case k2 => k_asm); (case k1 => k_asm); (case k3 => k_asm); (case k4 => k_asm); (case k5 => k_asm); (case m1 => k_mem); (case kK => first | exact rfl | assumption); (case i1 => l_ints); (case l1 => first | omega | decide); (case kd => ktr_room); (case ku => ktr_units); intro _ _ _ _ _ _ _ _ _ _ hof'; (replace hof' := AllNE.of hof'); revert hof'; intro _; (try dsimp only); (try k_fold)))
  k_with "my call ref" => (k_here; (with_reducible show wpAny _ _ (call (Value.ref 79) _) _ _ _); k_dflt (refine' prec_call ?k1 ?k2 ?k3 ?k4 ?m1 ?k5 ?kK ?i1 ?kd ?ku ?_; (case k2 => k_asm); (case k1 => k_asm); (case k3 => k_asm); (case k4 => k_asm); (case k5 => k_asm); (case m1 => k_mem); (case kK => first | exact rfl | assumption); (case i1 => l_ints); (case kd => ktr_room); (case ku => ktr_units); intro _ _ _ _ _ _ _; (try dsimp only); (try k_fold)))
  k_with "my call builtin:min" => (k_here; (with_reducible show wpAny _ _ (call (Value.builtin "min") [Value.int _ _, Value.int _ _]) _ _ _); k_dflt (refine' min_op ?kh ?kF ?kN ?_; (case kh => rfl); (case kF => k_asm); (case kN => k_asm)); intro _ _ _ _ _ _ _; (try dsimp only); (try k_fold))
  k_with "my call builtin:max" => (k_here; (with_reducible show wpAny _ _ (call (Value.builtin "max") [Value.int _ _, Value.int _ _]) _ _ _); k_dflt (refine' max_op ?kh ?kF ?kN ?_; (case kh => rfl); (case kF => k_asm); (case kN => k_asm)); intro _ _ _ _ _ _ _; (try dsimp only); (try k_fold))
  k_with "my storeName" => (k_here; first | ((with_reducible show wpAny _ _ (storeName _ (Str.ofString "hundredths") (Value.int (Int.fdiv _ _) _)) _ _ _); refine gen_store ?_; intro _ _ _) | ((with_reducible show wpAny _ _ (storeName _ (Str.ofString "hundredths") (Value.int (_ - _) _)) _ _ _); refine gen_store ?_; intro _ _ _) | ((with_reducible show wpAny _ _ (storeName _ (Str.ofString "plain") (Value.int (Int.fdiv _ _) _)) _ _ _); refine gen_store ?_; intro _ _ _))
  trivial
theorem max_pos {v a : Int} (h : v = max 1 a) : 1 ≤ v := by omega
theorem max_hi {v a b : Int} (h2 : v = max 1 a) (h1 : a = min b 2) : v ≤ 2 := by omega
theorem checks_top {w : World} {p : Program} {loose : List Str} {mean : ExcName → Option Value} {mg mb : Str → Option Value}
    {dp un : Nat} {gd : Option (List Code)} {cn : Str} {cs : Scope} {a : Addr} {ccd : Value} {cl : List (Str × Addr)} {A₀ : Around} {h₀ : Heap} {L : Addr} {m : Str → Option Value} {s : Shared} {Q E : Value → Shared → Prop}
    {src : Addr} {x y : Int} {tx ty : Tok} {n : Nat} {rest : List (Addr × Obj)}
    (B : Below A₀ h₀ [] h₀) (F : Fr h₀ L s.heap m) (X : (Mine.hd.heap_39 w.params).In h₀) (N : News h₀ L s.heap ((src, listOf #[.int x tx, .int y ty] n) :: rest)) (T : Top p loose mean mg mb h₀)
    (hk : cs.kind = .function) (hr : ∀ p ∈ rest, p.1 ≠ src) (hx : 0 ≤ x) (hy : 0 ≤ y) (hy2 : y < 2147483647) (hd : dp + 60 < recursionLimit) (hu : un + 1000 < cLine)
    (ret : ∀ x' tx' y' ty' n' h' tk', Fr h₀ L h' m → News h₀ L h' ((src, listOf #[.int x' tx', .int y' ty'] n') :: rest) → 0 ≤ x' → 0 ≤ y' → y' < 2147483647 → Q (.bool true) { s with heap := h', toks := tk' }) :
    wpAny (model PySem.Challenge.rw_nt0538_01.row.prog w) (ktrTop dp un gd cn cs L a ccd cl []) (call (.ref 165) [.ref src]) Q E s := by
  refine checks_ok X T ktsDicts_nil B F X N T hk hr hx hy hy2 hd hu (fun h₀' x' tx' y' ty' n' h' tk' K F' N' _ _ _ _ hx' hy' hyy' => ?_)
  have up : ∀ b o, h₀.get? b = some o → h₀'.get? b = some o := fun b o e => K.other b o e (List.not_mem_nil)
  refine ret x' tx' y' ty' n' h' tk' ⟨F'.ns, fun b o e => F'.keep b o (up b o e), by rw [← K.size]; exact F'.above⟩ (fun p hp => ⟨(N' p hp).1, (N' p hp).2.1, kts_none up (N' p hp).2.2⟩) hx' hy' hyy'
theorem words_31 : True := by
  k_with_none
  k_with "own k_all" => (assumption)
  k_with "my subscriptTail Name Constant ref int" => (k_here; (with_reducible show wpAny _ _ (subscriptTail _ _ (Value.ref _) (Value.int _ _)) _ _ _); (with_unfolding_all refine' item_litK ?k1 ?k2 ?k3 ?k4 ?_ ?k6; (case k1 => is_list); (case k2 => decide); (case k3 => decide); (case k4 => rfl); (case k6 => with_unfolding_all rfl); k_whole))
  k_with "my take asks" => ( (case k2 => k_asm); (case k1 => k_asm); (case k3 => k_asm); (case k5 => k_asm); (case kK => first | exact rfl | assumption); (case kr => k_all); (case kx => assumption); (case ky => assumption); (case ky2 => assumption); (case kt => first | decide | omega); (case kt2 => first | decide | omega); (case kd => ktr_room); (case ku => ktr_units); intro _ _ _ _ _ _ _ _ _ _ N' _ _ _ _ _; (try simp only [List.nil_append, List.cons_append] at N'); (try dsimp only); (try k_fold); (have N' := True.intro))
  k_with "my call ref" => (k_here; (with_reducible show wpAny _ _ (call (Value.ref 124) _) _ _ _); k_dflt (first | (refine' take_call (pre := []) ?k1 ?k2 ?k3 ?k4 ?k5 ?kK ?kr ?kx ?ky ?ky2 ?kt ?kt2 ?kd ?ku ?_; (case k4 => assumption); walk_at "take asks") | (refine' take_call (pre := [_]) ?k1 ?k2 ?k3 ?k4 ?k5 ?kK ?kr ?kx ?ky ?ky2 ?kt ?kt2 ?kd ?ku ?_; (case k4 => assumption); walk_at "take asks") | (refine' take_call (pre := [_, _]) ?k1 ?k2 ?k3 ?k4 ?k5 ?kK ?kr ?kx ?ky ?ky2 ?kt ?kt2 ?kd ?ku ?_; (case k4 => assumption); walk_at "take asks") | (refine' take_call (pre := [_, _, _]) ?k1 ?k2 ?k3 ?k4 ?k5 ?kK ?kr ?kx ?ky ?ky2 ?kt ?kt2 ?kd ?ku ?_; (case k4 => assumption); walk_at "take asks") | (refine' take_call (pre := [_, _, _, _]) ?k1 ?k2 ?k3 ?k4 ?k5 ?kK ?kr ?kx ?ky ?ky2 ?kt ?kt2 ?kd ?ku ?_; (case k4 => assumption); walk_at "take asks") | (refine' take_call (pre := [_, _, _, _, _]) ?k1 ?k2 ?k3 ?k4 ?k5 ?kK ?kr ?kx ?ky ?ky2 ?kt ?kt2 ?kd ?ku ?_; (case k4 => assumption); walk_at "take asks") | (refine' take_call (pre := [_, _, _, _, _, _]) ?k1 ?k2 ?k3 ?k4 ?k5 ?kK ?kr ?kx ?ky ?ky2 ?kt ?kt2 ?kd ?ku ?_; (case k4 => assumption); walk_at "take asks")))
  k_with "own k_all" => (first | assumption | exact lt_ne0 (by assumption) (by omega) | exact lt_ne1 (by assumption) (by omega) | exact lt_ne2 (by assumption) (by omega) | exact lt_ne3 (by assumption) (by omega))
  k_with "my enter C" => (refine' code_defC ?k1 ?k2 ?k3 ?k4 ?k5 ?kA ?kF ?kK ?k6 ?k7 ?k8 ?k9 ?kB ?kD ?_ ?c2 ?c3 ?c4; (case kA => exact rfl); (case kF => exact rfl); (case kK => assumption); (case k1 => k_asm); (case k2 => k_asm); (case k3 => k_asm); (case k4 => k_asm); (case k5 => k_asm); (case k6 => k_is); (case k7 => k_is); (case k8 => ktr_room); (case k9 => exact BindsTo.of_eq rfl); (case kB => exact rfl); (case kD => decide +kernel); (case c2 => exact rfl); (case c3 => exact rfl); (case c4 => exact rfl); k_whole; intro _ _ _ _ _ _ _ N' Y' B' _ _ l1; (have l2 := l1); (try k_lt l1); k_cells Y'; (try simp only [List.cons_append, List.nil_append] at N'); (try dsimp only); (try k_lift B'); (try k_fold); (have N' := True.intro); (have Y' := True.intro); (have B' := True.intro); (have l1 := True.intro); (have l2 := True.intro))
  k_with "my subscriptTail" => (k_here; (with_reducible show wpAny _ _ (subscriptTail (PySem.Expr.List _ _) _ (Value.ref _) (Value.int _ _)) _ _ _); (with_unfolding_all (first | (refine' item_menuB 1 65535 ?k1 ?k2 ?k3 ?k4 ?k5 ?kb ?_; (case k1 => is_list); (case k2 => l_ints); (case kb => decide); (case k3 => l_idx); (case k4 => l_idx); (case k5 => l_idx); k_whole) | (refine' item_menuB (-7) 130 ?k1 ?k2 ?k3 ?k4 ?k5 ?kb ?_; (case k1 => is_list); (case k2 => l_ints); (case kb => decide); (case k3 => l_idx); (case k4 => l_idx); (case k5 => l_idx); k_whole))); intro _ _ _ _)
  k_with "my eval ListComp" => (k_here; k_dflt (refine LCg.ListComp_U (F₀ := by k_asm) (by with_unfolding_all rfl) (by decide) (by rfl) (by decide) (by rfl) ?_))
  k_with "my CompSrc" => (k_here; k_dflt (refine LCg.CompSrc.range (by rfl) (by k_asm) (by k_asm) (by assumption) (by first | exact small_one (by kcf_bnd) (by kcf_bnd) (by kcf_bnd) (by kcf_bnd) | decide) (by first | exact rangeSize_nat _ _ | rfl) (by first | (rw [PySem.sizeLine_eq]; omega) | (rw [PySem.sizeLine_eq]; (simp only [List.size_toArray]); omega) | size_fits) ?_; intro _))
  k_with "my CompRest" => (fail "mine")
  k_with "my compareOp Eq ref ref" => (k_here; k_dflt (first | (refine' tup_eq ?k1 ?k2 ?k3 ?k4 ?k5 ?_; (case k1 => exact News.isTup (by k_asm) (by k_mem)); (case k2 => exact News.isTup (by k_asm) (by k_mem)); (case k3 => l_ints); (case k4 => l_ints); (case k5 => ktr_units); k_whole) | (refine' eq_intsK ?k1 ?k2 ?k3 ?k4 ?k5 ?_; (case k1 => is_list); (case k2 => l_ints); (case k3 => is_list); (case k4 => l_ints); (case k5 => ktr_units); k_whole)))
  k_with "my compareOp NotEq ref ref" => (k_here; k_dflt (first | (refine' tup_ne ?k1 ?k2 ?k3 ?k4 ?k5 ?_; (case k1 => exact News.isTup (by k_asm) (by k_mem)); (case k2 => exact News.isTup (by k_asm) (by k_mem)); (case k3 => l_ints); (case k4 => l_ints); (case k5 => ktr_units); k_whole) | (refine' ne_intsK ?k1 ?k2 ?k3 ?k4 ?k5 ?_; (case k1 => is_list); (case k2 => l_ints); (case k3 => is_list); (case k4 => l_ints); (case k5 => ktr_units); k_whole)))
  k_with "my call type:tuple" => (k_here; (with_reducible show wpAny _ _ (call (Value.type _) [Value.ref _]) _ _ _); k_dflt (refine' call_tuple_tup ?k1 ?_; (case k1 => exact News.isTup (by k_asm) (by k_mem)); k_whole))
  k_with "my call builtin:len" => (k_here; (with_reducible show wpAny _ _ (call (Value.builtin "len") [Value.ref _]) _ _ _); k_dflt (refine' len_tupI ?k1 ?k2 ?k3 ?_; (case k1 => exact News.isTup (by k_asm) (by k_mem)); (case k2 => l_ints); (case k3 => omega); k_whole))
  k_with "my drops" => (first | exact Drops.here | (refine' Drops.there ?kq; (case kq => (walk_at "drops"))))
  k_with "my pool asks" => ((case k2 => k_asm); (case k1 => k_asm); (case k3 => k_asm); (case k5 => k_asm); (case kN => assumption); (case kD => (walk_at "drops")); (case kK => first | exact rfl | assumption); (case kr => k_all); (case kx => assumption); (case ky => assumption); (case ky2 => assumption); (case kt => first | decide | omega); (case kt2 => first | decide | omega); (case kd => ktr_room); (case ku => ktr_units))
  k_with "my call ref" => (k_here; (with_reducible show wpAny _ _ (call (Value.ref 124) _) _ _ _); k_dflt (refine' take_ok ?k1 ?k2 ?k3 (drops_news ?kN ?kD) ?k5 ?kK ?kr ?kx ?ky ?ky2 ?kt ?kt2 ?kd ?ku ?_; (walk_at "pool asks"); intro _ _ _ _ _ _ _ _ _ _ _ _ _ _ _ _; (try dsimp only); (try k_fold)))
  k_with "my call ref" => (k_here; (with_reducible show wpAny _ _ (call (Value.ref 131) _) _ _ _); k_dflt (refine' number_ok ?k1 ?k2 ?k3 (drops_news ?kN ?kD) ?k5 ?kK ?kr ?kx ?ky ?ky2 ?kt ?kt2 ?kd ?ku ?_; (walk_at "pool asks"); intro _ _ _ _ _ _ _ _ _ _ _ _ _ _ _ _; (try dsimp only); (try k_fold)))
  k_with "my call ref" => (k_here; (with_reducible show wpAny _ _ (call (Value.ref 136) _) _ _ _); k_dflt (refine' table_ok ?k1 ?k2 ?k3 (drops_news ?kN ?kD) ?k5 ?kK ?kr ?kx ?ky ?ky2 ?kt ?kd ?ku ?kt2 ?_; (walk_at "pool asks"); intro _ _ _ _ _ _ _ _ _ _ _ _ ne' hof' _ _ _ _ _ _; (replace ne' := NE.mk ne'); (replace hof' := AllNE.of hof'); revert ne' hof'; intro _ _; (try dsimp only); (try k_fold)))
  k_with "my call ref" => (k_here; (with_reducible show wpAny _ _ (call (Value.ref 65) _) _ _ _); k_dflt (refine' sctab_call ?k1 ?k2 ?k3 ?k4 ?m1 ?k5 ?kK ?i1 ?l1 ?kd ?ku ?_; (case k2 => k_asm); (case k1 => k_asm); (case k3 => k_asm); (case k4 => k_asm); (case k5 => k_asm); (case m1 => k_mem); (case kK => first | exact rfl | assumption); (case i1 => l_ints); (case l1 => first | omega | decide); (case kd => ktr_room); (case ku => ktr_units); intro _ _ _ _ _ _ _ _ _ _ hof'; (replace hof' := AllNE.of hof'); revert hof'; intro _; (try dsimp only); (try k_fold)))
  k_with "my call ref" => (k_here; (with_reducible show wpAny _ _ (call (Value.ref 79) _) _ _ _); k_dflt (refine' prec_call ?k1 ?k2 ?k3 ?k4 ?m1 ?k5 ?kK ?i1 ?kd ?ku ?_; (case k2 => k_asm); (case k1 => k_asm); (case k3 => k_asm); (case k4 => k_asm); (case k5 => k_asm); (case m1 => k_mem); (case kK => first | exact rfl | assumption); (case i1 => l_ints); (case kd => ktr_room); (case ku => ktr_units); intro _ _ _ _ _ _ _; (try dsimp only); (try k_fold)))
  k_with "my call builtin:min" => (k_here; (with_reducible show wpAny _ _ (call (Value.builtin "min") [Value.int _ _, Value.int _ _]) _ _ _); k_dflt (refine' min_op ?kh ?kF ?kN ?_; (case kh => rfl); (case kF => k_asm); (case kN => k_asm)); intro _ _ _ _ _ _ _; (try dsimp only); (try k_fold))
  k_with "my call builtin:max" => (k_here; (with_reducible show wpAny _ _ (call (Value.builtin "max") [Value.int _ _, Value.int _ _]) _ _ _); k_dflt (refine' max_op ?kh ?kF ?kN ?_; (case kh => rfl); (case kF => k_asm); (case kN => k_asm)); intro _ _ _ _ _ _ _; (try dsimp only); (try k_fold))
  k_with "my storeName" => (k_here; first | ((with_reducible show wpAny _ _ (storeName _ (Str.ofString "hundredths") (Value.int (Int.fdiv _ _) _)) _ _ _); refine gen_store ?_; intro _ _ _) | ((with_reducible show wpAny _ _ (storeName _ (Str.ofString "hundredths") (Value.int (_ - _) _)) _ _ _); refine gen_store ?_; intro _ _ _) | ((with_reducible show wpAny _ _ (storeName _ (Str.ofString "plain") (Value.int (Int.fdiv _ _) _)) _ _ _); refine gen_store ?_; intro _ _ _))
  k_with "my call builtin:len" => (k_here; (with_reducible show wpAny _ _ (call (Value.builtin "len") [Value.ref _]) _ _ _); (rename Fr _ _ _ _ => lF9); k_dflt (refine' len_listI ?k1 ?k2 ?k3 ?_; (case k1 => exact list_keeps (by assumption) lF9.keep); (case k2 => assumption); (case k3 => omega); k_whole))
  k_with "my call ref" => (k_here; (with_reducible show wpAny _ _ (call (Value.ref 117) _) _ _ _); k_dflt (refine' pool_ok ?k1 ?k2 ?k3 ?k4 ?k5 ?kK ?kS ?kI ?kl ?k0 ?kx ?kd ?ku ?_; (case k2 => k_asm); (case k1 => k_asm); (case k3 => k_asm); (case k4 => k_asm); (case k5 => k_asm); (case kK => first | exact rfl | assumption); (case kS => assumption); (case kI => assumption); (case kl => omega); (case k0 => omega); (case kx => omega); (case kd => first | ktr_room | k_room); (case ku => first | ktr_units | units_room); intro _ _ _ _ _ _ _ _ _ _ hlt' _ _ _; (have hr' := fun p hp => Nat.ne_of_lt (hlt' p hp)); (try dsimp only); (try k_fold)); (have hlt' := True.intro); (have hr' := True.intro))
  k_with "my call ref" => (k_here; (with_reducible show wpAny _ _ (call (Value.ref 148) _) _ _ _); k_dflt (refine' rows_ok ?k1 ?k2 ?k3 ?k4 ?k5 ?kK ?kr ?kx ?ky ?ky2 ?kd ?ku ?_; (case k2 => k_asm); (case k1 => k_asm); (case k3 => k_asm); (case k4 => k_asm); (case k5 => k_asm); (case kK => first | exact rfl | assumption); (case kr => assumption); (case kx => assumption); (case ky => assumption); (case ky2 => assumption); (case kd => first | ktr_room | k_room); (case ku => first | ktr_units | units_room); intro _ _ _ _ _ _ _ _ _ _ _ _; (try dsimp only); (try k_fold)))
  k_with "my call ref" => (k_here; (with_reducible show wpAny _ _ (call (Value.ref 153) _) _ _ _); k_dflt (refine' qual_ok ?k1 ?k2 ?k3 ?k4 ?k5 ?kK ?kr ?kx ?ky ?ky2 ?kd ?ku ?_; (case k2 => k_asm); (case k1 => k_asm); (case k3 => k_asm); (case k4 => k_asm); (case k5 => k_asm); (case kK => first | exact rfl | assumption); (case kr => assumption); (case kx => assumption); (case ky => assumption); (case ky2 => assumption); (case kd => first | ktr_room | k_room); (case ku => first | ktr_units | units_room); intro _ _ _ _ _ _ _ _ _ _ _ _; (try dsimp only); (try k_fold)))
  k_with "my call ref" => (k_here; (with_reducible show wpAny _ _ (call (Value.ref 165) _) _ _ _); k_dflt (refine' checks_top ?k1 ?k2 ?k3 ?k4 ?k5 ?kK ?kr ?kx ?ky ?ky2 ?kd ?ku ?_; (case k2 => k_asm); (case k1 => k_asm); (case k3 => k_asm); (case k4 => k_asm); (case k5 => k_asm); (case kK => first | exact rfl | assumption); (case kr => assumption); (case kx => assumption); (case ky => assumption); (case ky2 => assumption); (case kd => first | ktr_room | k_room); (case ku => first | ktr_units | units_room); intro _ _ _ _ _ _ _ _ _ _ _ _; (try dsimp only); (try k_fold)))
  k_with "my exec For Name Call cons nil" => (k_here; (rename Fr _ _ _ _ => lF'); (with_unfolding_all refine' For_invVF lF' ?k1 ?k2 ?_; (case k1 => exact rfl); (case k2 => exact rfl); k_whole))
  k_with "my pyIter ref" => (k_here; (with_reducible show wpAny _ _ (pyIter (Value.ref _)) (fun it s₂ => LoopAtV _ _ _ _ _ _ _ _ _ it s₂) _ _); refine Stop.mk ?_)
  k_with "my InvEndN" => (refine Stop.mk ?_)
  trivial
set_option maxRecDepth 100000 in
set_option maxHeartbeats 8000000 in
theorem holds : PySem.Challenge.rw_nt0538_01.Holds := Mine.hd (by
  k_go0
  (all_goals try k_fold)
  k_steps
  unfold Stop
  (rename _ = min _ (2 : Int) => hm1)
  (rename _ = max (1 : Int) _ => hm2)
  (rename IsRange _ _ _ _ _ _ _ _ => hR9)
  (rename News _ _ _ _ => N3)
  (rename Fr _ _ _ _ => F3)
  have hp1 := max_pos hm2
  have hp2 := max_hi hm2 hm1
  obtain ⟨mn, hmn⟩ := Int.eq_ofNat_of_zero_le (Int.le_trans (by decide : (0 : Int) ≤ 1) hp1)
  rw [hmn] at hR9 hp1 hp2
  refine iter_rangeJ (n := mn) (fun _ m nx => MapBut [Str.ofString "k", Str.ofString "source"] _ m ∧ nx = _) (by rfl) hR9 (by exact small_one (by kcf_bnd) (by kcf_bnd) (by kcf_bnd) (by kcf_bnd)) (rangeSize_nat _ _) F3 N3 ⟨MapBut.self, rfl⟩ ?lturn ?ldone
  case lturn =>
    rintro i t m₁ nx h tk own hi9 hoff ⟨⟨u, rfl⟩, rfl⟩ F' N'
    obtain ⟨k, hk9⟩ : ∃ k : Int, k = 0 + (i : Nat) * 1 := ⟨_, rfl⟩
    rw [← hk9] at F'
    simp only [List.nil_append] at N'
    (try k_fold)
    k_steps
    all_goals
      unfold Stop
      refine InvEndN.intro (by k_asm) (by k_asm) ⟨MapBut.of ?_, rfl⟩ rfl (by kcf_all) (by kcf_all)
      intro y hy
      have h1 : y ≠ Str.ofString "k" := by rintro rfl; exact absurd hy (by decide)
      have h2 : y ≠ Str.ofString "source" := by rintro rfl; exact absurd hy (by decide)
      simp only [h1, h2, if_false, hy, Bool.false_eq_true]
  case ldone =>
    rintro m₁ nx h tk ⟨⟨u, rfl⟩, rfl⟩ F' N'
    k_steps)
end
end
end Mine

theorem PySem.Challenge.cw_nt0538_01_holds : PySem.Challenge.rw_nt0538_01.Holds :=
  Mine.holds
