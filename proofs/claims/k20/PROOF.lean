import PyProof.Rows.All
import Wide.All
import OpenK.AllK
import Wide.FinOn
import HandS.ForMost
import HandS.More
import HandS.Conv
import HandS.Codes

import HandS.Flow
import HandS.Finally
import HandS.Walk
import HandS.DeepEq
import KE.KEqNest
import PySem.Challenge.RW_deltaboughs_k20_whole_rounds_apart
set_option Elab.async false
set_option maxRecDepth 100000
set_option maxHeartbeats 4000000

namespace K20
open PySem L2
def top (i : Nat) : Stmt := PySem.Challenge.pw_deltaboughs_k20_whole_rounds_apart.main.body.getD i (.Pass ⟨0, 0, 0, 0⟩)
abbrev s_Rounds_init : Stmt := inClass (top 5) 0
abbrev s_Rounds_enter : Stmt := inClass (top 5) 1
abbrev s_Rounds_leave : Stmt := inClass (top 5) 2
abbrev s_Rounds_wait : Stmt := inClass (top 5) 3
abbrev s_Rounds_sweep : Stmt := inClass (top 5) 4
abbrev s_Rounds_now : Stmt := inClass (top 5) 5
abbrev s_Rounds_inside : Stmt := inClass (top 5) 6
abbrev s_Rounds_waiting : Stmt := inClass (top 5) 7
abbrev s_Rounds_twin : Stmt := inClass (top 5) 8
abbrev s_pool : Stmt := top 7
abbrev s_take : Stmt := top 8
abbrev s_look : Stmt := top 9
abbrev s_deed : Stmt := top 10
abbrev s_emptied : Stmt := top 11
abbrev s_law : Stmt := top 12
abbrev n_Rounds_init : List Str := ["self"]
abbrev n_Rounds_enter : List Str := ["self", "name", "noted"]
abbrev n_Rounds_leave : List Str := ["self", "name", "noted", "e"]
abbrev n_Rounds_wait : List Str := ["self", "thing"]
abbrev n_Rounds_sweep : List Str := ["self", "old", "noted", "thing", "since"]
abbrev n_Rounds_now : List Str := ["self"]
abbrev n_Rounds_inside : List Str := ["self"]
abbrev n_Rounds_waiting : List Str := ["self"]
abbrev n_Rounds_twin : List Str := ["self", "other"]
abbrev n_pool : List Str := ["_law_script", "_law_k", "_law_cell", "_law_seed"]
abbrev n_take : List Str := ["_law_pool_here", "_law_many", "_law_found"]
abbrev n_look : List Str := ["_law_rings"]
abbrev n_deed : List Str := ["_law_pool_here", "_law_rings", "_law_name", "_law_way"]
abbrev n_emptied : List Str := ["_law_rings", "_law_other", "_law_name", "_law_found", "_law_thing", "_law_since"]
abbrev n_law : List Str := ["_law_script", "_law_some", "_law_k", "_law_pool_here", "_law_at", "_law_rings", "_law_before", "_law_number"]
theorem sc_Rounds_init : FnScope n_Rounds_init ["self"] (defScope s_Rounds_init) := ⟨rfl, rfl, rfl, by decide +kernel, rfl, by decide +kernel, by decide +kernel⟩
theorem sc_Rounds_enter : FnScope n_Rounds_enter ["self", "name"] (defScope s_Rounds_enter) := ⟨rfl, rfl, rfl, by decide +kernel, rfl, by decide +kernel, by decide +kernel⟩
theorem sc_Rounds_leave : FnScope n_Rounds_leave ["self", "name"] (defScope s_Rounds_leave) := ⟨rfl, rfl, rfl, by decide +kernel, rfl, by decide +kernel, by decide +kernel⟩
theorem sc_Rounds_wait : FnScope n_Rounds_wait ["self", "thing"] (defScope s_Rounds_wait) := ⟨rfl, rfl, rfl, by decide +kernel, rfl, by decide +kernel, by decide +kernel⟩
theorem sc_Rounds_sweep : FnScope n_Rounds_sweep ["self"] (defScope s_Rounds_sweep) := ⟨rfl, rfl, rfl, by decide +kernel, rfl, by decide +kernel, by decide +kernel⟩
theorem sc_Rounds_now : FnScope n_Rounds_now ["self"] (defScope s_Rounds_now) := ⟨rfl, rfl, rfl, by decide +kernel, rfl, by decide +kernel, by decide +kernel⟩
theorem sc_Rounds_inside : FnScope n_Rounds_inside ["self"] (defScope s_Rounds_inside) := ⟨rfl, rfl, rfl, by decide +kernel, rfl, by decide +kernel, by decide +kernel⟩
theorem sc_Rounds_waiting : FnScope n_Rounds_waiting ["self"] (defScope s_Rounds_waiting) := ⟨rfl, rfl, rfl, by decide +kernel, rfl, by decide +kernel, by decide +kernel⟩
theorem sc_Rounds_twin : FnScope n_Rounds_twin ["self"] (defScope s_Rounds_twin) := ⟨rfl, rfl, rfl, by decide +kernel, rfl, by decide +kernel, by decide +kernel⟩
theorem sc_pool : FnScope n_pool ["_law_script", "_law_k"] (defScope s_pool) := ⟨rfl, rfl, rfl, by decide +kernel, rfl, by decide +kernel, by decide +kernel⟩
theorem sc_take : FnScope n_take ["_law_pool_here", "_law_many"] (defScope s_take) := ⟨rfl, rfl, rfl, by decide +kernel, rfl, by decide +kernel, by decide +kernel⟩
theorem sc_look : FnScope n_look ["_law_rings"] (defScope s_look) := ⟨rfl, rfl, rfl, by decide +kernel, rfl, by decide +kernel, by decide +kernel⟩
theorem sc_deed : FnScope n_deed ["_law_pool_here", "_law_rings"] (defScope s_deed) := ⟨rfl, rfl, rfl, by decide +kernel, rfl, by decide +kernel, by decide +kernel⟩
theorem sc_emptied : FnScope n_emptied ["_law_rings"] (defScope s_emptied) := ⟨rfl, rfl, rfl, by decide +kernel, rfl, by decide +kernel, by decide +kernel⟩
theorem sc_law : FnScope n_law ["_law_script"] (defScope s_law) := ⟨rfl, rfl, rfl, by decide +kernel, rfl, by decide +kernel, by decide +kernel⟩
/-! ### a cut: what stands between a statement and the rest, said once -/
structure Cut (t u : TS) (D : Ends) (σ : St) (H : Hp) : Prop where
  ex : ∃ Mid : St → Hp → Prop, t { D with nx := Mid } σ H ∧ ∀ σ' H', Mid σ' H' → u D σ' H'
theorem cutAt {X : Cx} {st : Stmt} {rest : List Stmt} {t u : TS} (h1 : PS X st t) (h2 : PSs X rest u) : PSs X (st :: rest) (Cut t u) := by
  constructor
  intro pins s σ H D I h
  obtain ⟨Mid, a, b⟩ := h.ex
  apply wpAny_execs_cons
  refine thn (h1.run pins s σ H { D with nx := Mid } I a) ?_
  intro f s1 q
  match f, q with
  | .next, ⟨σ', H', I', m⟩ => exact h2.run pins s1 σ' H' D I' (b σ' H' m)
  | .ret _, q => exact q
  | .brk, q => exact q
  | .cont, q => exact q
theorem un_upd {H : Hp} {a b : Addr} {o : HO} (h : upd H a o b = none) : b ≠ a ∧ H b = none := by
  have n : b ≠ a := fun e => by rw [e, upd_same] at h; cases h
  exact ⟨n, by rwa [upd_ne n] at h⟩
theorem same_upd {H H' : Hp} {a : Addr} {o : HO} (s : Same H H') (h : H a = none) : Same H (upd H' a o) := fun b u e => by
  rw [upd_ne (ne_of_none e h)]; exact s b u e
theorem same_new {H : Hp} {a : Addr} {o : HO} (h : H a = none) : Same H (upd H a o) := same_upd (Same.refl H) h
/-- d[k] = v as one of several targets -/
theorem set_dict {X : Cx} (hu : X.A.units + 1 < cLine) : PSet X (fun o i v H Q => ∃ a H', o = .ref a ∧ DPut H a i v H' ∧ Q H') := by
  intro pins s σ H o i v ov iv u Q I ro ri rv h
  obtain ⟨a, H', rfl, g, q⟩ := h
  cases ro
  exact d_setItem hu I g ri rv fun s' J => ⟨H', J, q⟩
/-- behind i turns of a comprehension that touches nothing that stood: S i is what stands in the new list -/
structure CP (H1 : Hp) (D : Addr) (S : Nat → List V) (i : Nat) (H : Hp) : Prop where
  fr : H1 D = none
  sm : Same H1 H
  at_ : H D = some (.lst (S i))
section
variable {H1 H H' : Hp} {D : Addr} {S : Nat → List V} {i : Nat} {y : V}
theorem CP.start (hD : H1 D = none) (h0 : S 0 = []) : CP H1 D S 0 (upd H1 D (.lst [])) := ⟨hD, same_new hD, by rw [h0]; exact upd_same⟩
theorem CP.push (c : CP H1 D S i H) (s : Same H H') (e : S (i + 1) = S i ++ [y]) : CP H1 D S (i + 1) (upd H' D (.lst (S i ++ [y]))) :=
  ⟨c.fr, same_upd (c.sm.trans s) c.fr, by rw [e]; exact upd_same⟩
theorem CP.skip (c : CP H1 D S i H) (s : Same H H') (e : S (i + 1) = S i) : CP H1 D S (i + 1) H' := ⟨c.fr, c.sm.trans s, by rw [e]; exact s _ _ c.at_⟩
end
theorem Paired.at {α β : Type} {F : α → β → Prop} : ∀ {l : List α} {r : List β} {i : Nat} {x : α}, Paired F l r → l[i]? = some x → ∃ y, r[i]? = some y ∧ F x y
  | _, _, _, _, .nil, e => by simp at e
  | _, _, 0, _, .cons f _, e => by simp at e; subst e; exact ⟨_, rfl, f⟩
  | _, _, i + 1, x, .cons _ t, e => by
    obtain ⟨y, e1, e2⟩ := Paired.at (i := i) (x := x) t (by simpa using e)
    exact ⟨y, by simpa using e1, e2⟩
theorem take_snoc {α : Type} {l : List α} {i : Nat} {x : α} (h : l[i]? = some x) : l.take (i + 1) = l.take i ++ [x] := by
  rw [List.take_add_one, h]; rfl
/-! ### places where a reading is taken up by hand: "go" stops there -/
structure Wrap (p : Prop) : Prop where
  ex : p
theorem pi_w {X : Cx} {tg iter : Expr} {wi : TI} (h : PI X tg iter wi) : PI X tg iter (fun σ H R => wi σ H fun J H1 => Wrap (R J H1)) := by
  refine ⟨fun pins s σ H R I hw => ?_⟩
  refine thn (h.run pins s σ H _ I hw) fun v s1 a => thn a fun itv s2 b => ?_
  obtain ⟨it, fp, tn, J, H', e, I2, T, st, f, r⟩ := b
  exact ⟨it, fp, tn, J, H', e, I2, T, st, f, r.ex⟩
theorem pe_lk {X : Cx} {e : Expr} {t : TE} (h : PE X e t) : PE X e (fun σ H Q => Wrap (tLockE t σ H Q)) :=
  ⟨fun pins s σ H Q I hw => (pe_lock h).run pins s σ H Q I hw.ex⟩
theorem ps_lk {X : Cx} {st : Stmt} {t : TS} (h : PS X st t) : PS X st (fun D σ H => Wrap (tLock t D σ H)) :=
  ⟨fun pins s σ H D I hw => (ps_lock h).run pins s σ H D I hw.ex⟩
/-! ### within a comprehension's block: what is read is said over the def's own context -/
theorem viaE {X : Cx} {e : Expr} {t t' : TE} (h : PE X e t) (q : t = t') : PE X e t' := q ▸ h
theorem viaT {X : Cx} {es : List Expr} {t t' : TT} (h : PTs X es t) (q : t = t') : PTs X es t' := q ▸ h
theorem viaG {X : Cx} {e : Expr} {t t' : TG} (h : PG X e t) (q : t = t') : PG X e t' := q ▸ h
theorem then_ {c : Bool} {A B : Prop} (h : c = true) (a : A) : if c = true then A else B := by rw [if_pos h]; exact a
theorem else_ {c : Bool} {A B : Prop} (h : c = false) (b : B) : if c = true then A else B := by rw [h]; exact b
theorem by2 {c : Bool} {A B : Prop} (h1 : c = true → A) (h2 : c = false → B) : if c = true then A else B := by
  cases c with
  | true => exact h1 rfl
  | false => exact h2 rfl
theorem fm_yes {α β : Type} {ws : List α} {f : α → Bool} {g : α → β} {j : Nat} {x : α} (h : ws[j]? = some x) (c : f x = true) : ((ws.take (j + 1)).filter f).map g = ((ws.take j).filter f).map g ++ [g x] := by
  rw [take_snoc h, List.filter_append, List.map_append, List.filter_cons, if_pos c]; rfl
theorem fm_no {α β : Type} {ws : List α} {f : α → Bool} {g : α → β} {j : Nat} {x : α} (h : ws[j]? = some x) (c : f x = false) : ((ws.take (j + 1)).filter f).map g = ((ws.take j).filter f).map g := by
  rw [take_snoc h, List.filter_append, List.map_append, List.filter_cons, if_neg (by simp [c])]
  show _ ++ [] = _; rw [List.append_nil]
theorem Paired.snoc {α β : Type} {F : α → β → Prop} : ∀ {l : List α} {r : List β} {x : α} {y : β}, Paired F l r → F x y → Paired F (l ++ [x]) (r ++ [y])
  | _, _, _, _, .nil, f => .cons f .nil
  | _, _, _, _, .cons g t, f => .cons g (Paired.snoc t f)
theorem walk_upto {n : Nat} : Walk (Itr 0 n) n (fun _ => True) (YFn fun i => .int (i : Nat)) :=
  walk_range.mono (fun _ h => h) fun i H x H' _ _ h => by
    obtain ⟨h1, h2⟩ := h
    refine ⟨h1, h2.trans ?_⟩
    show V.int (0 + (i : Int)) = V.int i
    rw [Int.zero_add]
/-- an if whose test comes out as b, the heap as it was -/
theorem ifS {tc : TT} {t u : TS} {D : Ends} {σ : St} {H : Hp} (b : Bool) (h : ∀ Q : Bool → Hp → Prop, Q b H → tc σ H Q) (h1 : b = true → t D σ H) (h2 : b = false → u D σ H) : tIfS tc t u D σ H :=
  h _ (by
    cases b with
    | true => exact h1 rfl
    | false => exact h2 rfl)
theorem andQ {a b : Bool} {Q : Bool → Hp → Prop} {H : Hp} {u : Prop} (h : Q (a && b) H) (hu : a = true → Q b H → u) : if a = true then u else Q false H := by
  cases a with
  | true => exact hu rfl h
  | false => exact h
theorem dec_v {i j : Int} : decide (V.int i = V.int j) = decide (i = j) := by simp
theorem map_set_same {α β : Type} {l : List α} {j : Nat} {x y : α} {f : α → β} (h : l[j]? = some x) (e : f y = f x) : (l.set j y).map f = l.map f := by
  apply List.ext_getElem?
  intro n
  rw [List.getElem?_map, List.getElem?_map, List.getElem?_set]
  by_cases c : j = n
  · subst c
    obtain ⟨hl, _⟩ := List.getElem?_eq_some_iff.mp h
    rw [if_pos rfl, if_pos hl, h]
    exact congrArg some e
  · rw [if_neg c]
/-! ### a dict that a call has made, walked: it is locked once it stands, and never let go -/
def tSeal (t : TE) : TE := fun σ H Q => t σ H fun x H1 => ∃ d kvs, x = .ref d ∧ H1 d = some (.dK kvs) ∧ ∀ od, Q x (upd H1 d (.frz od (.dK kvs)))
theorem pe_seal {X : Cx} {e : Expr} {t : TE} (h : PE X e t) : PE X e (tSeal t) := by
  refine ⟨fun pins s σ H Q I hw => ?_⟩
  refine thn (h.run pins s σ H _ I hw) fun v s1 ⟨x, H1, I1, r, d, kvs, ex, hd, q⟩ => ?_
  obtain ⟨od, I2⟩ := I1.lock hd True.intro
  exact ⟨x, _, I2, r, q od⟩

/-! ### tactics: "arith" and "fact" close a side condition, "hp" looks an object up, "ne" parts two addresses, "go" steps through a reading as far as equations and known facts lead -/
local macro_rules | `(tactic| walk_at "arith") => `(tactic| first
  | omega
  | (dsimp only; omega)
  | exact Nat.le_of_ble_eq_true rfl
  | decide
  | exact ⟨by omega, by omega⟩
  | exact Or.inl ⟨by omega, by omega⟩
  | exact Or.inr ⟨by omega, by omega⟩
  | exact ⟨by omega, by omega, by omega, by omega⟩)
local macro_rules | `(tactic| walk_at "ne") => `(tactic| first
  | (with_reducible assumption)
  | (apply Ne.symm; with_reducible assumption)
  | exact ne_of_none (by assumption) (by assumption)
  | exact Ne.symm (ne_of_none (by assumption) (by assumption)))
local macro_rules | `(tactic| walk_at "hp") => `(tactic| first
  | (with_reducible assumption)
  | (with_reducible exact upd_same)
  | ((with_reducible apply Eq.trans (upd_ne (by walk_at "ne"))); walk_at "hp"))
local macro_rules | `(tactic| walk_at "fact") => `(tactic| first
  | apply Eq.refl
  | (with_reducible assumption)
  | ((with_reducible apply SqL.of); walk_at "hp")
  | ((with_reducible apply SqT.of); walk_at "hp")
  | ((with_reducible apply Or.inl); (with_reducible apply SqL.of); walk_at "hp")
  | ((with_reducible apply Or.inr); (with_reducible apply SqT.of); walk_at "hp")
  | walk_at "hp"
  | ((with_reducible apply Rd.of); walk_at "hp")
  | ((with_reducible show tyV _ _ _ _); exact Or.inl ⟨rfl, _, SqL.of (by walk_at "hp")⟩)
  | ((with_reducible show tyV _ _ _ _); exact Or.inr (Or.inr (Or.inl ⟨rfl, Or.inl ⟨_, by walk_at "hp"⟩⟩)))
  | ((with_reducible show IsD _ _); exact Or.inl ⟨_, Or.inl (by walk_at "hp")⟩)
  | ((with_reducible show SqL _ _ _ _); assumption)
  | ((with_reducible show SqT _ _ _ _); assumption)
  | ((with_reducible show SqL _ _ _ _ ∨ _); apply Or.inl; assumption)
  | ((with_reducible show SqL _ _ _ _ ∨ _); apply Or.inr; assumption)
  | ((with_reducible show ∃ xs, SqL _ _ _ xs); apply Exists.intro; first | (apply SqL.of; walk_at "hp") | assumption)
  | ((with_reducible show ∃ xs, SqT _ _ _ xs); apply Exists.intro; first | (apply SqT.of; walk_at "hp") | assumption)
  | walk_at "arith"
  | assumption)
local macro_rules | `(tactic| walk_at "go1") => `(tactic| first
  | apply Exists.intro
  | (apply And.intro; focus (walk_at "fact")))
local macro_rules | `(tactic| walk_at "go") => `(tactic| repeat (walk_at "go1"))
local macro_rules | `(tactic| walk_at "x_then") => `(tactic| ((with_reducible refine then_ ?_ ?_); focus (first | rfl | assumption | (simp; done))))
local macro_rules | `(tactic| walk_at "x_else") => `(tactic| ((with_reducible refine else_ ?_ ?_); focus (first | rfl | assumption | (simp; done))))

/-! ### the drawing: a pool is a list of two numbers; what is drawn is below what is asked -/
def PoolAt (H : Hp) (q : Addr) : Prop := ∃ c s : Int, H q = some (.lst [.int c, .int s]) ∧ 0 ≤ c ∧ 0 ≤ s ∧ s < 2147483648
def spPool (K : PySem.W.Frag) : Sp := fun vs H Q _ => ∃ (a : Addr) (ns : List Int) (k : Nat), vs = [.ref a, .int k] ∧ SqL K H a (ns.map V.int) ∧ ns.length ≤ 63 ∧ k ≤ 63 ∧
  ∀ (p : Addr) (c s : Int), H p = none → 0 ≤ c → 0 ≤ s → s < 2147483648 → Q (.ref p) (upd H p (.lst [.int c, .int s]))
def spTake : Sp := fun vs H Q _ => ∃ (q : Addr) (m : Int), vs = [.ref q, .int m] ∧ PoolAt H q ∧ 0 < m ∧ m < 1073741824 ∧
  ∀ (r c s : Int), 0 ≤ r → r < m → 0 ≤ c → 0 ≤ s → s < 2147483648 → Q (.int r) (upd H q (.lst [.int c, .int s]))

/-! ### Rounds: an object with a number, a dict, a list -/
theorem nf_ni : ¬ (("own_now" : Str) = "own_inside") := by decide +kernel
theorem nf_nw : ¬ (("own_now" : Str) = "own_waiting") := by decide +kernel
theorem nf_iw : ¬ (("own_inside" : Str) = "own_waiting") := by decide +kernel
def rf (n : Int) (i w : Addr) : List (Str × V) := putF "own_waiting" (V.ref w) (putF "own_inside" (V.ref i) (putF "own_now" (V.int n) []))
theorem rf_now (n : Int) (i w : Addr) : (rf n i w).lookup ("own_now" : Str) = some (V.int n) := by
  unfold rf; rw [lookup_putF, if_neg nf_nw, lookup_putF, if_neg nf_ni, lookup_putF, if_pos rfl]
theorem rf_ins (n : Int) (i w : Addr) : (rf n i w).lookup ("own_inside" : Str) = some (V.ref i) := by
  unfold rf; rw [lookup_putF, if_neg nf_iw, lookup_putF, if_pos rfl]
theorem rf_wai (n : Int) (i w : Addr) : (rf n i w).lookup ("own_waiting" : Str) = some (V.ref w) := by
  unfold rf; rw [lookup_putF, if_pos rfl]
theorem rf_no (n : Int) (i w : Addr) {m : Str} (h1 : ¬ m = "own_now") (h2 : ¬ m = "own_inside") (h3 : ¬ m = "own_waiting") : (rf n i w).lookup m = none := by
  unfold rf; rw [lookup_putF, if_neg h3, lookup_putF, if_neg h2, lookup_putF, if_neg h1]; rfl
theorem rf_eq (n : Int) (i w : Addr) : rf n i w = ([("own_now", V.int n), ("own_inside", V.ref i), ("own_waiting", V.ref w)] : List (Str × V)) := by
  unfold rf; simp only [putF]; rw [if_neg nf_ni]; simp only [putF]; rw [if_neg nf_nw, if_neg nf_iw]
theorem rf_len (n : Int) (i w : Addr) : (rf n i w).length < 1000 := by
  rw [rf_eq]; show 3 < 1000; decide
theorem rf_putN (n m : Int) (i w : Addr) : putF "own_now" (V.int m) (rf n i w) = rf m i w := by
  rw [rf_eq, rf_eq]; simp only [putF]; rw [if_pos True.intro]
theorem rf_putW (n : Int) (i w v : Addr) : putF "own_waiting" (V.ref v) (rf n i w) = rf n i v := by
  rw [rf_eq, rf_eq]; simp only [putF]; rw [if_neg nf_nw, if_neg nf_iw, if_pos True.intro]
theorem rf_putI (n : Int) (i w v : Addr) : putF "own_inside" (V.ref v) (rf n i w) = rf n v w := by
  rw [rf_eq, rf_eq]; simp only [putF]; rw [if_neg nf_ni, if_pos True.intro]
def RObj (C : Addr) (H : Hp) (p : Addr) (n : Int) (i w : Addr) : Prop := ∃ dx, H p = some (.ins C dx (rf n i w))
/-- a row of what waits: a tuple of a thing and a number -/
def Row (H : Hp) (t : Addr) (x : V × Int) : Prop := H t = some (.tup [x.1, .int x.2])
def spRInit (C : Addr) : Sp := fun vs H Q _ => ∃ (p dx : Addr), vs = [.ref p] ∧ H p = some (.ins C dx []) ∧
  ∀ (H' : Hp) (i w : Addr), H i = none → H w = none → i ≠ w → RObj C H' p 0 i w → H' i = some (.dK []) → H' w = some (.lst []) → (∀ b u, H b = some u → b ≠ p → H' b = some u) → Q .non H'
def spNow (C : Addr) : Sp := fun vs H Q _ => ∃ (p : Addr) (n : Int) (i w : Addr), vs = [.ref p] ∧ RObj C H p n i w ∧ Q (.int n) H
def spInside (C : Addr) : Sp := fun vs H Q _ => ∃ (p : Addr) (n : Int) (i w : Addr) (kvs : List (Key × V)), vs = [.ref p] ∧ RObj C H p n i w ∧ H i = some (.dK kvs) ∧ ∀ d, H d = none → Q (.ref d) (upd H d (.dK kvs))
def spWaiting (C : Addr) : Sp := fun vs H Q _ => ∃ (p : Addr) (n : Int) (i w : Addr) (xs : List V), vs = [.ref p] ∧ RObj C H p n i w ∧ H w = some (.lst xs) ∧ ∀ d, H d = none → Q (.ref d) (upd H d (.lst xs))
def spWait (C : Addr) : Sp := fun vs H Q _ => ∃ (p : Addr) (x : V) (n : Int) (i w : Addr) (xs : List V), vs = [.ref p, x] ∧ RObj C H p n i w ∧ H w = some (.lst xs) ∧ xs.length < 10000 ∧
  ∀ t, H t = none → Q .non (upd (upd H t (.tup [x, .int n])) w (.lst (xs ++ [.ref t])))
/-- a name that isn't inside goes in -/
def spEnter (C : Addr) : Sp := fun vs H Q _ => ∃ (p : Addr) (s : Str) (n : Int) (i w : Addr) (kvs : List (Key × V)), vs = [.ref p, .str s] ∧ RObj C H p n i w ∧ H i = some (.dK kvs) ∧ kvs.length < 1000 ∧ valV kvs (Sum.inr s) = none ∧
  Q (.int n) (upd H i (.dK (putK kvs (Sum.inr s) (.int n))))
def spLeave (C : Addr) : Sp := fun vs H Q _ => ∃ (p : Addr) (s : Str) (n : Int) (i w : Addr) (kvs : List (Key × V)) (v : V), vs = [.ref p, .str s] ∧ RObj C H p n i w ∧ H i = some (.dK kvs) ∧ valV kvs (Sum.inr s) = some v ∧
  Q v (upd H i (.dK (dropK kvs (Sum.inr s))))
/-- the round behind a sweep -/
def nxt (n : Int) (rs : List Int) : Int := if (rs.all fun r => decide (r = n)) = true then n + 1 else n
def isOld (n : Int) (x : V × Int) : Bool := decide (x.2 + 2 ≤ n)
def spSweep (C : Addr) : Sp := fun vs H Q _ => ∃ (p : Addr) (n : Int) (i w : Addr) (kvs : List (Key × V)) (rs : List Int) (ts : List Addr) (ws : List (V × Int)), vs = [.ref p] ∧ RObj C H p n i w ∧ H i = some (.dK kvs) ∧ kvs.map (·.2) = rs.map V.int ∧
  H w = some (.lst (ts.map V.ref)) ∧ Paired (Row H) ts ws ∧ kvs.length < 1000 ∧ ws.length < 10000 ∧
  ∀ (H' : Hp) (o w' : Addr) (ts' : List Addr), H o = none → H w' = none → o ≠ w' → (∀ b u, H b = some u → b ≠ p → H' b = some u) → RObj C H' p (nxt n rs) i w' →
    H' o = some (.lst ((ws.filter (isOld (nxt n rs))).map (·.1))) → H' w' = some (.lst (ts'.map V.ref)) → Paired (Row H') ts' (ws.filter fun x => !isOld (nxt n rs) x) → Q (.ref o) H'

/-! ### data that == looks at, flat -/
theorem dp_ints {K : PySem.W.Frag} {H : Hp} : ∀ ns : List Int, DpAll K H (ns.map V.int) (ns.map PyData.int)
  | [] => .nil
  | n :: r => .cons (.int n) (dp_ints r)
theorem lay_ints : ∀ ns : List Int, PyData.canLayAll0 (ns.map PyData.int) = true ∧ PyData.depthAll (ns.map PyData.int) = 0
  | [] => ⟨rfl, rfl⟩
  | n :: r => by
    obtain ⟨a, b⟩ := lay_ints r
    rw [List.map_cons, PyData.canLayAll0, PyData.depthAll, a, b]
    exact ⟨rfl, rfl⟩
theorem shaped_ints (ns : List Int) : SeqAt.shaped (.list (ns.map PyData.int)) = true := by
  obtain ⟨a, b⟩ := lay_ints ns
  unfold SeqAt.shaped
  rw [PyData.canLay0, PyData.depth, a, b]
  rfl
theorem can_ints (ns : List Int) : (PyData.list (ns.map PyData.int)).canLay0 = true := by
  rw [PyData.canLay0, (lay_ints ns).1]
/-! ### dicts: an entry at its place -/
section
variable {κ : Type} [DecidableEq κ]
theorem valV_at : ∀ {kvs : List (κ × V)} {j : Nat} {kv : κ × V}, (kvs.map (·.1)).Nodup → kvs[j]? = some kv → valV kvs kv.1 = some kv.2
  | [], _, _, _, h => by simp at h
  | p :: r, 0, kv, _, h => by
    have e : p = kv := Option.some.inj h
    subst e; exact valV_pos rfl
  | p :: r, j + 1, kv, nd, h => by
    have nd' : p.1 ∉ r.map (·.1) ∧ (r.map (·.1)).Nodup := List.nodup_cons.mp nd
    have h' : r[j]? = some kv := by simpa using h
    have ne : ¬ p.1 = kv.1 := fun e => nd'.1 (by rw [e]; exact List.mem_map_of_mem (List.mem_of_getElem? h'))
    rw [valV_neg ne]; exact valV_at nd'.2 h'
theorem valV_of_not {kvs : List (κ × V)} {k : κ} (h : k ∉ kvs.map (·.1)) : valV kvs k = none := by
  cases e : valV kvs k with
  | none => rfl
  | some v => exact (h (valV_in e)).elim
theorem putK_at {kvs : List (κ × V)} {j : Nat} {kv : κ × V} (v : V) (nd : (kvs.map (·.1)).Nodup) (h : kvs[j]? = some kv) : putK kvs kv.1 v = kvs.set j (kv.1, v) := by
  unfold putK
  rw [if_pos (by rw [valV_any, valV_at nd h]; rfl)]
  apply List.ext_getElem?
  intro i
  rw [List.getElem?_map, List.getElem?_set]
  by_cases e : j = i
  · subst e
    have hl : j < kvs.length := (List.getElem?_eq_some_iff.mp h).1
    rw [if_pos rfl, if_pos hl, h]; simp
  · rw [if_neg e]
    cases hi : kvs[i]? with
    | none => rfl
    | some x =>
      have ne : ¬ x.1 = kv.1 := fun q => e (nd_ix (l := kvs.map (·.1)) (x := kv.1) nd (by rw [List.getElem?_map, h]; rfl) (by rw [List.getElem?_map, hi]; exact congrArg some q))
      simp [ne]
end

/-! ### == and != of data of any nesting: lists, dicts, tuples -/
section
open PySem.SeqAt PySem.AutoSeq1 PySem.MeetsSeq PySem.MeetsSeq2 PySem.MeetsSeq3
theorem tup_ne_same {prog : Program} {w : World} (l b : Addr) (xs ys : Array Value)
    (hz : xs.size = ys.size) (n m : Nat) (dx dy : Option Addr) (sx sy : Array (Option Value)) :
    MeetsIn prog w (Builtin.«tuple.__ne__» ⟨[.ref l, .ref b], []⟩) (fun A R s =>
      s.heap.get? l = some ⟨.type "tuple", dx, .seq xs n, sx⟩ ∧
      s.heap.get? b = some ⟨.type "tuple", dy, .seq ys m, sy⟩ ∧
      (∀ q ∈ xs.toList.zip ys.toList, EqIn prog w A.in1 s q.1 q.2 true) ∧
      R (.ok (.ret (.bool false))) s) :=
  .of_wp fun A R s h => by
    obtain ⟨hp, g, d, tk, os⟩ := s
    obtain ⟨h1, h2, h3, h4⟩ := h
    have f := AutoSeq1.sub_tuple_tuple
    wp_walk using wpAny_loadPart' h1, wpAny_loadPart' h2, wpAny_forIn_list _ (fun rest b s' => b.1 = none ∧ s' = ⟨hp, g, d, tk, os⟩ ∧
      ∀ q ∈ rest, EqIn prog w A.in1 ⟨hp, g, d, tk, os⟩ q.1 q.2 true) _
    case turn =>
      rintro ⟨y, x⟩ rest b s' ⟨_, rfl, k⟩
      refine wpAny_bind (k (y, x) List.mem_cons_self _ _ ?_)
      wp_walk
      exact ⟨rfl, rfl, fun q m => k q (List.mem_cons_of_mem _ m)⟩
    case fin =>
      rintro ⟨b1, b2⟩ s' ⟨hb, rfl, _⟩
      simp only at hb
      subst hb
      wp_walk
      exact ⟨_, rfl, by simpa [Builtin.Tuple.tupleCompareSizes, hz] using h4⟩
    case h => exact ⟨rfl, rfl, h3⟩
theorem ne_tuples {prog : Program} {w : World} {A : Around} {s : Shared} {l b : Addr} {xs ys : Array Value} (h1 : s.heap.IsTuple l xs) (h2 : s.heap.IsTuple b ys) (hz : xs.size = ys.size) (hu : A.units < cLine)
    (he : ∀ q ∈ xs.toList.zip ys.toList, EqIn prog w A.in1 s q.1 q.2 true) (E Q : Value → Shared → Prop) (h : Q (.bool false) s) : wpAny (model prog w) A (richCompare .NotEq (.ref l) (.ref b)) Q E s := by
  obtain ⟨⟨c1, d1, e1, sl1⟩, o1, k1, n1, z1⟩ := id h1
  obtain ⟨⟨c2, d2, e2, sl2⟩, o2, k2, n2, z2⟩ := id h2
  simp only at k1 z1 k2 z2
  subst k1 z1 k2 z2
  have t1 : s.TypeIs (.ref l) "tuple" := ⟨_, o1, rfl⟩
  have t2 : s.TypeIs (.ref b) "tuple" := ⟨_, o2, rfl⟩
  refine wpAny_richCompare_same_room (op := .NotEq) t1 t2 F.slot_tuple_ne ?_ hu
  refine call_meetsIn F.slot_tuple_ne t1 F.entry_tuple_ne (F.args_tuple_ne_2 _ _) (tup_ne_same l b xs ys hz n1 n2 d1 d2 sl1 sl2) ⟨o1, o2, he, ?_⟩
  exact ⟨(fun x => nomatch x), h⟩
end
/-- two tuples of equal items -/
def EqT (K : PySem.W.Frag) (H : Hp) (E : V → V → Prop) (x y : V) : Prop := ∃ a b xs ys, x = .ref a ∧ y = .ref b ∧ SqT K H a xs ∧ SqT K H b ys ∧ Paired E xs ys
/-- equal, of nesting below n -/
def EqW (K : PySem.W.Frag) (H : Hp) : Nat → V → V → Prop
  | 0 => fun _ _ => False
  | n + 1 => fun x y => (x = y ∧ flatB x = true) ∨ (∃ a, x = .ref a ∧ y = .ref a) ∨ EqR K H (EqW K H n) x y ∨ EqT K H (EqW K H n) x y
section
variable {X : Cx} {pins : List (Addr × Obj)} {σ : St} {H : Hp} {s : Shared}
theorem zip_run {F : V → V → Prop} {G : Value → Value → Prop} (ih : ∀ x y v u, F x y → RelV x v → RelV y u → G v u) {xs ys : List V} (hp : Paired F xs ys) :
    ∀ {us ws : List Value}, Vals xs us → Vals ys ws → ∀ q ∈ us.zip ws, G q.1 q.2 := by
  induction hp with
  | nil =>
    intro us ws r1 _ q m
    cases r1
    simp at m
  | cons h _ k =>
    intro us ws r1 r2 q m
    cases r1 with
    | cons a1 b1 =>
      cases r2 with
      | cons a2 b2 =>
        rcases List.mem_cons.mp m with rfl | m
        · exact ih _ _ _ _ h a1 a2
        · exact k b1 b2 q m
theorem eqT_ne (I : Inv X pins σ H s) {A : Around} {F : V → V → Prop} (hu : A.units < cLine) (ih : ∀ x y v u, F x y → RelV x v → RelV y u → SeqAt.EqP X.prog X.w A.in1 s v u true) {x y : V} {v u : Value} (h : EqT X.K H F x y) (rx : RelV x v) (ry : RelV y u)
    (E Q : Value → Shared → Prop) (q : Q (.bool false) s) : wpAny (model X.prog X.w) A (richCompare .NotEq v u) Q E s := by
  obtain ⟨a, b, xs, ys, rfl, rfl, ha, hb, hp⟩ := h
  cases (show v = Value.ref a from rx)
  cases (show u = Value.ref b from ry)
  obtain ⟨us, r1, p1, _⟩ := I.tuple ha
  obtain ⟨ws, r2, p2, _⟩ := I.tuple hb
  refine ne_tuples p1 p2 ?_ hu ?_ E Q q
  · rw [List.size_toArray, List.size_toArray, ← r1.length, ← r2.length]
    exact hp.length
  · intro z m
    exact zip_run (G := fun v u => SeqAt.EqIn X.prog X.w A.in1 s v u true) (fun x y v u h r1 r2 => ih x y v u h r1 r2) hp r1 r2 z (by simpa using m)
theorem eqT_run (I : Inv X pins σ H s) {A : Around} {F : V → V → Prop} (hu : A.units < cLine) (ih : ∀ x y v u, F x y → RelV x v → RelV y u → SeqAt.EqP X.prog X.w A.in1 s v u true) {x y : V} {v u : Value} (h : EqT X.K H F x y) (rx : RelV x v) (ry : RelV y u)
    (E Q : Value → Shared → Prop) (q : Q (.bool true) s) : wpAny (model X.prog X.w) A (richCompare .Eq v u) Q E s := by
  obtain ⟨a, b, xs, ys, rfl, rfl, ha, hb, hp⟩ := h
  cases (show v = Value.ref a from rx)
  cases (show u = Value.ref b from ry)
  obtain ⟨us, r1, p1, _⟩ := I.tuple ha
  obtain ⟨ws, r2, p2, _⟩ := I.tuple hb
  have hz : us.toArray.size = ws.toArray.size := by
    rw [List.size_toArray, List.size_toArray, ← r1.length, ← r2.length]
    exact hp.length
  refine SeqAt.rcIn_tuples (e := fun _ => true) p1 p2 hu (fun j h1 h2 => items_run ih hp r1 r2 j (by simpa using h1) (by simpa using h2)) ?_
  rw [List.all_eq_true.mpr fun _ _ => rfl, hz]
  simpa using q
theorem eqW_run (I : Inv X pins σ H s) : ∀ (n : Nat) (A : Around), A.units + n < cLine → ∀ (x y : V) (v u : Value), EqW X.K H n x y → RelV x v → RelV y u → SeqAt.EqP X.prog X.w A s v u true
  | 0, _, _, _, _, _, _, h, _, _ => (show False from h).elim
  | n + 1, A, hu, x, y, v, u, h, rx, ry => by
    have ih := eqW_run I n A.in1 (by show A.units + 1 + n < cLine; omega)
    have two : ∀ {a b : Addr}, x = .ref a → y = .ref b → (∀ E Q : Value → Shared → Prop, Q (.bool true) s → wpAny (model X.prog X.w) A (richCompare .Eq v u) Q E s) → SeqAt.EqP X.prog X.w A s v u true := fun {a b} e1 e2 step => by
      subst e1; subst e2
      cases (show v = Value.ref a from rx)
      cases (show u = Value.ref b from ry)
      by_cases e : a = b
      · subst e; exact (SeqAt.EqAt.same _).eqP
      · exact SeqAt.eqP_refs e step
    rcases h with ⟨rfl, f⟩ | ⟨a, rfl, rfl⟩ | h | h
    · exact (eqAt_same rx ry f).eqP
    · cases (show v = Value.ref a from rx)
      cases (show u = Value.ref a from ry)
      exact (SeqAt.EqAt.same _).eqP
    · have step := eqR_run I (A := A) (by omega) ih h rx ry
      rcases h with ⟨a, b, _, _, e1, e2, _⟩ | ⟨a, b, _, _, e1, e2, _⟩
      · exact two e1 e2 step
      · exact two e1 e2 step
    · have step := eqT_run I (A := A) (by omega) ih h rx ry
      obtain ⟨a, b, _, _, e1, e2, _⟩ := h
      exact two e1 e2 step
end
section
variable {X : Cx}
/-- a != b, two tuples that are equal -/
def rNeW (K : PySem.W.Frag) : R2 := fun x y H Q => ∃ n, n ≤ 60 ∧ EqT K H (EqW K H n) x y ∧ Q (.bl false) H
theorem op_neW (hu : X.A.units + 64 < cLine) : OpR X (compareOp .NotEq) (rNeW X.K) := by
  intro pins s σ H x y v u Q I rx ry h
  obtain ⟨n, hn, h, q⟩ := h
  exact eqT_ne I (A := X.A) (by omega) (eqW_run I n X.A.in1 (by show X.A.units + 1 + n < cLine; omega)) h rx ry _ _ ⟨.bl false, H, I, rfl, q⟩
end

/-! ### one Rounds among others -/
structure RS where
  p : Addr
  i : Addr
  w : Addr
  now : Int
  ins : List (Str × Int)
  ts : List Addr
  ws : List (Int × Int)
def insV (l : List (Str × Int)) : List (Key × V) := l.map fun x => (Sum.inr x.1, V.int x.2)
structure RAt (C : Addr) (H : Hp) (r : RS) : Prop where
  hp : RObj C H r.p r.now r.i r.w
  hi : H r.i = some (.dK (insV r.ins))
  hw : H r.w = some (.lst (r.ts.map V.ref))
  hr : Paired (fun t (x : Int × Int) => H t = some (.tup [.int x.1, .int x.2])) r.ts r.ws
  le : ∀ x ∈ r.ws, x.2 ≤ r.now
  so : r.ws.Pairwise fun a b => a.2 ≤ b.2
  nd : (r.ins.map (·.1)).Nodup
def spTwin (C : Addr) : Sp := fun vs H Q _ => ∃ (p : Addr) (n : Int) (i w : Addr) (kvs : List (Key × V)) (xs : List V), vs = [.ref p] ∧ RObj C H p n i w ∧ H i = some (.dK kvs) ∧ H w = some (.lst xs) ∧
  ∀ (H' : Hp) (p' i' w' : Addr), H p' = none → H i' = none → H w' = none → Same H H' → RObj C H' p' n i' w' → H' i' = some (.dK kvs) → H' w' = some (.lst xs) → Q (.ref p') H'
def spLook (C : Addr) : Sp := fun vs H Q _ => ∃ (p : Addr) (n : Int) (i w : Addr) (kvs : List (Key × V)) (xs : List V), vs = [.ref p] ∧ RObj C H p n i w ∧ H i = some (.dK kvs) ∧ H w = some (.lst xs) ∧
  ∀ (H' : Hp) (t d l : Addr), H t = none → H d = none → H l = none → Same H H' → H' t = some (.tup [.int n, .ref d, .ref l]) → H' d = some (.dK kvs) → H' l = some (.lst xs) → Q (.ref t) H'
def spDeed (C : Addr) : Sp := fun vs H Q _ => ∃ (q : Addr) (r : RS), vs = [.ref q, .ref r.p] ∧ PoolAt H q ∧ RAt C H r ∧ q ≠ r.w ∧ r.ins.length < 900 ∧ r.ws.length < 900 ∧
  ∀ (H' : Hp) (r' : RS), r'.p = r.p → r'.i = r.i → (r'.w = r.w ∨ H r'.w = none) → RAt C H' r' → r'.ins.length ≤ r.ins.length + 1 → r'.ws.length ≤ r.ws.length + 1 →
    (∀ b u, H b = some u → b ≠ q → b ≠ r.p → b ≠ r.i → b ≠ r.w → H' b = some u) → Q .non H'
def spEmptied (C : Addr) : Sp := fun vs H Q _ => ∃ (r : RS), vs = [.ref r.p] ∧ RAt C H r ∧ r.ins.length < 900 ∧ r.ws.length < 900 ∧ ∀ H', Same H H' → Q (.bl true) H'
def spLaw (K : PySem.W.Frag) : Sp := fun vs H Q _ => ∃ (a : Addr) (ns : List Int), vs = [.ref a] ∧ SqL K H a (ns.map V.int) ∧ ns.length ≤ 63 ∧ ∀ H', Q (.bl true) H'
section
variable {C : Addr} {H H' : Hp} {r : RS} {q : Addr}
/-- a list beside is changed, or something is made -/
theorem RAt.else_ (R : RAt C H r) {o : HO} (hq : ∀ u, H q = some u → ∃ l, u = .lst l) (nw : q ≠ r.w) : RAt C (upd H q o) r := by
  have ne : ∀ {b : Addr} {u : HO}, H b = some u → (∀ l, u ≠ .lst l) → b ≠ q := fun {b u} e h z => by
    rw [z] at e
    obtain ⟨l, e1⟩ := hq u e
    exact h l e1
  obtain ⟨dx, hp⟩ := R.hp
  refine ⟨⟨dx, by rw [upd_ne (ne hp (by intro l z; cases z))]; exact hp⟩, by rw [upd_ne (ne R.hi (by intro l z; cases z))]; exact R.hi, by rw [upd_ne nw.symm]; exact R.hw,
    Paired.mapP R.hr fun t x e => by rw [upd_ne (ne e (by intro l z; cases z))]; exact e, R.le, R.so, R.nd⟩
theorem RAt.kept (R : RAt C H r) (h : ∀ b u, H b = some u → (b = r.p ∨ b = r.i ∨ b = r.w ∨ ∃ l, u = .tup l) → H' b = some u) : RAt C H' r := by
  obtain ⟨dx, hp⟩ := R.hp
  exact ⟨⟨dx, h _ _ hp (.inl rfl)⟩, h _ _ R.hi (.inr (.inl rfl)), h _ _ R.hw (.inr (.inr (.inl rfl))), Paired.mapP R.hr fun t x e => h _ _ e (.inr (.inr (.inr ⟨_, rfl⟩))), R.le, R.so, R.nd⟩
theorem RAt.same (R : RAt C H r) (h : Same H H') : RAt C H' r := R.kept fun b u e _ => h b u e
theorem RAt.drawn (R : RAt C H r) (z : PoolAt H q) (nw : q ≠ r.w) (c s : Int) : RAt C (upd H q (.lst [.int c, .int s])) r := by
  obtain ⟨c', s', hq, _⟩ := z
  exact R.else_ (fun u e => ⟨[.int c', .int s'], (Option.some.inj (hq.symm.trans e)).symm⟩) nw
theorem pool_drawn {c s : Int} (h1 : 0 ≤ c) (h2 : 0 ≤ s) (h3 : s < 2147483648) : PoolAt (upd H q (.lst [.int c, .int s])) q := ⟨c, s, upd_same, h1, h2, h3⟩
end
theorem atI_some {α : Type} {xs : List α} {r : Int} (h0 : 0 ≤ r) (h1 : r < (xs.length : Int)) : ∃ c, atI xs r = some c ∧ c ∈ xs := by
  have hl : r.toNat < xs.length := by omega
  have e : r = ((r.toNat : Nat) : Int) := by omega
  refine ⟨xs[r.toNat], ?_, List.getElem_mem hl⟩
  have h := atI_nat (List.getElem?_eq_getElem hl)
  rwa [← e] at h
theorem abc_len : (("abc" : Str).cps.toList.length : Int) = 3 := by decide +kernel
theorem abc_ok : ("abc" : Str).length ≤ sizeLine := by decide +kernel
theorem insV_len (l : List (Str × Int)) : (insV l).length = l.length := List.length_map ..
theorem insV_keys (l : List (Str × Int)) : (insV l).map (·.1) = l.map fun x => (Sum.inr x.1 : Key) := by unfold insV; rw [List.map_map]; rfl
theorem insV_nd {l : List (Str × Int)} (h : (l.map (·.1)).Nodup) : ((insV l).map (·.1)).Nodup := by
  rw [insV_keys, List.Nodup, List.pairwise_map]
  rw [List.Nodup, List.pairwise_map] at h
  exact h.imp fun ne e => ne (Sum.inr.inj e)
theorem insV_mem {l : List (Str × Int)} {s : Str} : (Sum.inr s : Key) ∈ (insV l).map (·.1) ↔ s ∈ l.map (·.1) := by
  rw [insV_keys]
  constructor
  · intro h
    obtain ⟨x, hx, e⟩ := List.mem_map.mp h
    exact List.mem_map.mpr ⟨x, hx, Sum.inr.inj e⟩
  · intro h
    obtain ⟨x, hx, e⟩ := List.mem_map.mp h
    exact List.mem_map.mpr ⟨x, hx, congrArg Sum.inr e⟩
theorem insV_put {l : List (Str × Int)} {s : Str} (n : Int) (h : valV (insV l) (Sum.inr s) = none) : putK (insV l) (Sum.inr s) (.int n) = insV (l ++ [(s, n)]) ∧ s ∉ l.map (·.1) := by
  refine ⟨?_, fun m => valV_not h (insV_mem.mpr m)⟩
  rw [putK_new _ h]
  unfold insV; rw [List.map_append]; rfl
def without (s : Str) (l : List (Str × Int)) : List (Str × Int) := l.filter fun x => decide (x.1 ≠ s)
theorem insV_drop (l : List (Str × Int)) (s : Str) : dropK (insV l) (Sum.inr s) = insV (without s l) := by
  unfold dropK insV without
  rw [List.filter_map]
  congr 2
  funext x
  show decide ((Sum.inr x.1 : Key) ≠ Sum.inr s) = decide (x.1 ≠ s)
  simp
/-- the round behind a sweep is this one or the next -/
theorem nxt_le (n : Int) (rs : List Int) : n ≤ nxt n rs ∧ nxt n rs ≤ n + 1 := by unfold nxt; split <;> omega
def wsV (ws : List (Int × Int)) : List (V × Int) := ws.map fun x => (V.int x.1, x.2)
def oldOf (m : Int) (ws : List (Int × Int)) : List (Int × Int) := ws.filter fun x => decide (x.2 + 2 ≤ m)
def leftOf (m : Int) (ws : List (Int × Int)) : List (Int × Int) := ws.filter fun x => !decide (x.2 + 2 ≤ m)
theorem wsV_old (m : Int) (ws : List (Int × Int)) : ((wsV ws).filter (isOld m)).map (·.1) = ((oldOf m ws).map (·.1)).map V.int := by
  unfold wsV oldOf; rw [List.filter_map, List.map_map, List.map_map]; rfl
theorem wsV_left (m : Int) (ws : List (Int × Int)) : (wsV ws).filter (fun x => !isOld m x) = wsV (leftOf m ws) := by
  unfold wsV leftOf; rw [List.filter_map]; rfl
theorem pair_map {α β γ : Type} {F : α → γ → Prop} {g : β → γ} : ∀ {l : List α} {r : List β}, Paired (fun a b => F a (g b)) l r ↔ Paired F l (r.map g)
  | [], [] => ⟨fun _ => .nil, fun _ => .nil⟩
  | [], _ :: _ => ⟨(fun h => nomatch h), (fun h => nomatch h)⟩
  | _ :: _, [] => ⟨(fun h => nomatch h), (fun h => nomatch h)⟩
  | a :: l, b :: r => by
    have ih := pair_map (F := F) (g := g) (l := l) (r := r)
    constructor
    · intro h; cases h with | cons x t => exact .cons x (ih.mp t)
    · intro h; cases h with | cons x t => exact .cons x (ih.mpr t)
theorem insV_vals (l : List (Str × Int)) : (insV l).map (·.2) = (l.map (·.2)).map V.int := by unfold insV; rw [List.map_map, List.map_map]; rfl
theorem parted (m : Int) : ∀ ws : List (Int × Int), ws.Pairwise (fun a b => a.2 ≤ b.2) → ws = oldOf m ws ++ leftOf m ws
  | [], _ => rfl
  | w :: r, h => by
    obtain ⟨h1, h2⟩ := List.pairwise_cons.mp h
    have ih := parted m r h2
    unfold oldOf leftOf at ih ⊢
    by_cases c : w.2 + 2 ≤ m
    · rw [List.filter_cons, if_pos (by simpa using c), List.filter_cons, if_neg (by simpa using c), List.cons_append, ← ih]
    · have e1 : r.filter (fun x => decide (x.2 + 2 ≤ m)) = [] := List.filter_eq_nil_iff.mpr fun x hx => by have := h1 x hx; simp only [decide_eq_true_eq]; omega
      have e2 : r.filter (fun x => !decide (x.2 + 2 ≤ m)) = r := List.filter_eq_self.mpr fun x hx => by have := h1 x hx; simp only [Bool.not_eq_true', decide_eq_false_iff_not]; omega
      rw [List.filter_cons, if_neg (by simpa using c), List.filter_cons, if_pos (by simpa using c), e1, e2]
      rfl
theorem all_old {n : Int} {ws : List (Int × Int)} (h : ∀ x ∈ ws, x.2 ≤ n) : oldOf (n + 1 + 1) ws = ws ∧ leftOf (n + 1 + 1) ws = [] :=
  ⟨List.filter_eq_self.mpr fun x hx => by have := h x hx; simp only [decide_eq_true_eq]; omega, List.filter_eq_nil_iff.mpr fun x hx => by have := h x hx; simp only [Bool.not_eq_true', decide_eq_false_iff_not, Classical.not_not]; omega⟩
theorem both_old {n : Int} {ws : List (Int × Int)} (so : ws.Pairwise fun a b => a.2 ≤ b.2) (h : ∀ x ∈ ws, x.2 ≤ n) : oldOf (n + 1) ws ++ oldOf (n + 1 + 1) (leftOf (n + 1) ws) = ws ∧ leftOf (n + 1 + 1) (leftOf (n + 1) ws) = [] := by
  obtain ⟨e1, e2⟩ := all_old (n := n) (ws := leftOf (n + 1) ws) fun x hx => h x (List.mem_filter.mp hx).1
  rw [e1, e2]
  exact ⟨(parted (n + 1) ws so).symm, rfl⟩
/-! ### all of them -/
def Apart (a b : RS) : Prop := a.p ≠ b.p ∧ a.i ≠ b.i ∧ a.w ≠ b.w
structure ALL (C : Addr) (H0 H : Hp) (S : Addr) (rs : List RS) (k : Nat) : Prop where
  s0 : Same H0 H
  fS : H0 S = none
  hS : H S = some (.lst (rs.map fun r => V.ref r.p))
  ra : ∀ r ∈ rs, RAt C H r
  fr : ∀ r ∈ rs, H0 r.p = none ∧ H0 r.i = none ∧ H0 r.w = none ∧ r.w ≠ S ∧ r.ins.length ≤ k ∧ r.ws.length ≤ k
  ds : ∀ (i j : Nat) (a b : RS), i ≠ j → rs[i]? = some a → rs[j]? = some b → Apart a b
  ln : rs.length ≤ 4
  ps : 0 < rs.length
structure PQ (H0 H : Hp) (q S : Addr) (rs : List RS) : Prop where
  f : H0 q = none
  at_ : PoolAt H q
  nS : q ≠ S
  nw : ∀ r ∈ rs, q ≠ r.w
section
variable {C : Addr} {H0 H H' : Hp} {S q : Addr} {rs : List RS} {k : Nat}
theorem ALL.same (L : ALL C H0 H S rs k) (s : Same H H') : ALL C H0 H' S rs k :=
  ⟨L.s0.trans s, L.fS, s _ _ L.hS, fun r hr => (L.ra r hr).same s, L.fr, L.ds, L.ln, L.ps⟩
theorem ALL.drawn (L : ALL C H0 H S rs k) (z : PQ H0 H q S rs) (c s : Int) : ALL C H0 (upd H q (.lst [.int c, .int s])) S rs k :=
  ⟨same_upd L.s0 z.f, L.fS, by rw [upd_ne z.nS.symm]; exact L.hS, fun r hr => (L.ra r hr).drawn z.at_ (z.nw r hr) c s, L.fr, L.ds, L.ln, L.ps⟩
theorem PQ.drawn (z : PQ H0 H q S rs) {c s : Int} (h1 : 0 ≤ c) (h2 : 0 ≤ s) (h3 : s < 2147483648) : PQ H0 (upd H q (.lst [.int c, .int s])) q S rs := ⟨z.f, pool_drawn h1 h2 h3, z.nS, z.nw⟩
theorem PQ.same (z : PQ H0 H q S rs) (s : Same H H') : PQ H0 H' q S rs := ⟨z.f, by obtain ⟨c, t, e, r⟩ := z.at_; exact ⟨c, t, s _ _ e, r⟩, z.nS, z.nw⟩
/-- one more, all of it new -/
theorem ALL.more (L : ALL C H0 H S rs k) {r : RS} (s : Same H H') (R : RAt C H' r) (fp : H r.p = none) (fi : H r.i = none) (fw : H r.w = none) (hl : rs.length < 4) (b1 : r.ins.length ≤ k) (b2 : r.ws.length ≤ k) :
    ALL C H0 (upd H' S (.lst ((rs.map fun r => V.ref r.p) ++ [.ref r.p]))) S (rs ++ [r]) k := by
  have hS' := s _ _ L.hS
  have nwS : ∀ {w : Addr}, H w = none → w ≠ S := fun {w} e z => by rw [z, L.hS] at e; cases e
  have lst : ∀ u, H' S = some u → ∃ l, u = .lst l := fun u e => ⟨_, (Option.some.inj (hS'.symm.trans e)).symm⟩
  refine ⟨same_upd (L.s0.trans s) L.fS, L.fS, ?_, fun x hx => ?_, fun x hx => ?_, fun i j a b n ha hb => ?_, ?_, ?_⟩
  · rw [upd_same, List.map_append]; rfl
  · rcases List.mem_append.mp hx with hx | hx
    · exact ((L.ra x hx).same s).else_ lst (L.fr x hx).2.2.2.1.symm
    · rw [List.mem_singleton.mp hx]
      exact R.else_ lst (nwS fw).symm
  · rcases List.mem_append.mp hx with hx | hx
    · exact L.fr x hx
    · rw [List.mem_singleton.mp hx]
      exact ⟨L.s0.free fp, L.s0.free fi, L.s0.free fw, nwS fw, b1, b2⟩
  · have new : ∀ {x : RS}, x ∈ rs → Apart x r := fun {x} hx => by
      have X := L.ra x hx
      obtain ⟨dx, hp⟩ := X.hp
      exact ⟨ne_of_none hp fp, ne_of_none X.hi fi, ne_of_none X.hw fw⟩
    have sy : ∀ {a b : RS}, Apart a b → Apart b a := fun z => ⟨z.1.symm, z.2.1.symm, z.2.2.symm⟩
    rw [List.getElem?_append] at ha hb
    split at ha <;> split at hb
    · exact L.ds i j a b n ha hb
    · have e : b = r := by
        rw [List.getElem?_singleton] at hb
        split at hb
        · exact (Option.some.inj hb).symm
        · cases hb
      rw [e]; exact new (List.mem_of_getElem? ha)
    · have e : a = r := by
        rw [List.getElem?_singleton] at ha
        split at ha
        · exact (Option.some.inj ha).symm
        · cases ha
      rw [e]; exact sy (new (List.mem_of_getElem? hb))
    · rw [List.getElem?_singleton] at ha hb
      split at ha <;> split at hb
      · omega
      · cases hb
      · cases ha
      · cases ha
  · rw [List.length_append, List.length_singleton]; omega
  · rw [List.length_append, List.length_singleton]; omega
/-- what was looked at before: the tuple at t, new since H1 -/
def Bef (H1 : Hp) (B : Addr) (H : Hp) (t : Addr) (r : RS) : Prop := ∃ d l, H1 t = none ∧ H1 d = none ∧ H1 l = none ∧ l ≠ B ∧ H t = some (.tup [.int r.now, .ref d, .ref l]) ∧ H d = some (.dK (insV r.ins)) ∧ H l = some (.lst (r.ts.map V.ref))
theorem Bef.same {H1 : Hp} {B t : Addr} {r : RS} (b : Bef H1 B H t r) (s : Same H H') : Bef H1 B H' t r := by
  obtain ⟨d, l, a, b, c, n, e1, e2, e3⟩ := b
  exact ⟨d, l, a, b, c, n, s _ _ e1, s _ _ e2, s _ _ e3⟩
theorem Bef.put {H1 : Hp} {B t : Addr} {r : RS} {xs ys : List V} (b : Bef H1 B H t r) (h : H B = some (.lst xs)) : Bef H1 B (upd H B (.lst ys)) t r := by
  obtain ⟨d, l, a, b, c, n, e1, e2, e3⟩ := b
  exact ⟨d, l, a, b, c, n, by rw [upd_ne (ne_of e1 h (by intro z; cases z))]; exact e1, by rw [upd_ne (ne_of e2 h (by intro z; cases z))]; exact e2, by rw [upd_ne n]; exact e3⟩
/-- a deed at j -/
theorem ALL.done (L : ALL C H0 H S rs k) {j : Nat} {r r' : RS} (hj : rs[j]? = some r) (z : PQ H0 H q S rs) (e1 : r'.p = r.p) (e2 : r'.i = r.i) (e3 : r'.w = r.w ∨ H r'.w = none) (R : RAt C H' r') (b1 : r'.ins.length ≤ r.ins.length + 1) (b2 : r'.ws.length ≤ r.ws.length + 1)
    (kp : ∀ b u, H b = some u → b ≠ q → b ≠ r.p → b ≠ r.i → b ≠ r.w → H' b = some u) : ALL C H0 H' S (rs.set j r') (k + 1) := by
  have hm := List.mem_of_getElem? hj
  have X := L.ra r hm
  obtain ⟨f1, f2, f3, f4, f5, f6⟩ := L.fr r hm
  obtain ⟨dx, hp⟩ := X.hp
  obtain ⟨cq, sq, hq, _⟩ := z.at_
  have wS : r'.w ≠ S := by
    rcases e3 with e | e
    · rw [e]; exact f4
    · intro y; rw [y, L.hS] at e; cases e
  have wf : H0 r'.w = none := by
    rcases e3 with e | e
    · rw [e]; exact f3
    · exact L.s0.free e
  have other : ∀ {i : Nat} {x : RS}, i ≠ j → rs[i]? = some x → RAt C H' x ∧ Apart x r' := fun {i x} n hx => by
    have hxm := List.mem_of_getElem? hx
    have Y := L.ra x hxm
    obtain ⟨a1, a2, a3⟩ := L.ds i j x r n hx hj
    obtain ⟨dy, hpy⟩ := Y.hp
    refine ⟨Y.kept fun b u e hb => ?_, by rw [e1]; exact a1, by rw [e2]; exact a2, ?_⟩
    · rcases hb with rfl | rfl | rfl | ⟨l, rfl⟩
      · exact kp _ _ e (ne_of hpy hq (by intro y; cases y)) a1 (ne_of hpy X.hi (by intro y; cases y)) (ne_of hpy X.hw (by intro y; cases y))
      · exact kp _ _ e (ne_of Y.hi hq (by intro y; cases y)) (ne_of Y.hi hp (by intro y; cases y)) a2 (ne_of Y.hi X.hw (by intro y; cases y))
      · exact kp _ _ e (z.nw x hxm).symm (ne_of Y.hw hp (by intro y; cases y)) (ne_of Y.hw X.hi (by intro y; cases y)) a3
      · exact kp _ _ e (ne_of e hq (by intro y; cases y)) (ne_of e hp (by intro y; cases y)) (ne_of e X.hi (by intro y; cases y)) (ne_of e X.hw (by intro y; cases y))
    · rcases e3 with e | e
      · rw [e]; exact a3
      · exact ne_of_none Y.hw e
  have sy : ∀ {a b : RS}, Apart a b → Apart b a := fun z => ⟨z.1.symm, z.2.1.symm, z.2.2.symm⟩
  have look : ∀ {i : Nat} {x : RS}, (rs.set j r')[i]? = some x → (i = j ∧ x = r') ∨ (i ≠ j ∧ rs[i]? = some x) := fun {i x} hx => by
    rw [List.getElem?_set] at hx
    by_cases c : j = i
    · subst c
      rw [if_pos rfl, if_pos (List.getElem?_eq_some_iff.mp hj).1] at hx
      exact .inl ⟨rfl, (Option.some.inj hx).symm⟩
    · rw [if_neg c] at hx
      exact .inr ⟨fun y => c y.symm, hx⟩
  have all : ∀ x ∈ rs.set j r', x = r' ∨ ∃ i, i ≠ j ∧ rs[i]? = some x := fun x hx => by
    obtain ⟨i, hi⟩ := List.getElem?_of_mem hx
    rcases look hi with ⟨_, e⟩ | ⟨n, e⟩
    · exact .inl e
    · exact .inr ⟨i, n, e⟩
  refine ⟨fun b u e => kp b u (L.s0 _ _ e) (ne_of_none e z.f) (ne_of_none e f1) (ne_of_none e f2) (ne_of_none e f3), L.fS, ?_, fun x hx => ?_, fun x hx => ?_, fun a b x y n hx hy => ?_, by rw [List.length_set]; exact L.ln, by rw [List.length_set]; exact L.ps⟩
  · rw [kp S _ L.hS z.nS.symm (ne_of L.hS hp (by intro y; cases y)) (ne_of L.hS X.hi (by intro y; cases y)) f4.symm, map_set_same (f := fun r : RS => V.ref r.p) hj (by rw [e1])]
  · rcases all x hx with rfl | ⟨i, n, e⟩
    · exact R
    · exact (other n e).1
  · rcases all x hx with rfl | ⟨i, n, e⟩
    · exact ⟨by rw [e1]; exact f1, by rw [e2]; exact f2, wf, wS, by omega, by omega⟩
    · obtain ⟨g1, g2, g3, g4, g5, g6⟩ := L.fr x (List.mem_of_getElem? e)
      exact ⟨g1, g2, g3, g4, by omega, by omega⟩
  · rcases look hx with ⟨rfl, rfl⟩ | ⟨n1, e⟩
    · rcases look hy with ⟨rfl, rfl⟩ | ⟨n2, e2⟩
      · exact (n rfl).elim
      · exact sy (other n2 e2).2
    · rcases look hy with ⟨rfl, rfl⟩ | ⟨n2, e2⟩
      · exact (other n1 e).2
      · exact L.ds a b x y n e e2
theorem PQ.done (z : PQ H0 H q S rs) {j : Nat} {r' : RS} {H' : Hp} (h : PoolAt H' q) (nw : q ≠ r'.w) : PQ H0 H' q S (rs.set j r') :=
  ⟨z.f, h, z.nS, fun x hx => by
    rcases List.mem_or_eq_of_mem_set hx with hx | rfl
    · exact z.nw x hx
    · exact nw⟩
end
/-- two looks at the same -/
theorem eq_look {K : PySem.W.Frag} {H : Hp} {t d l t' d' l' : Addr} {n : Int} {kvs : List (Key × V)} {ts : List Addr} (nd : (kvs.map (·.1)).Nodup) (hf : ∀ p ∈ kvs, flatB p.2 = true)
    (e1 : H t = some (.tup [.int n, .ref d, .ref l])) (e2 : H d = some (.dK kvs)) (e3 : H l = some (.lst (ts.map V.ref))) (e1' : H t' = some (.tup [.int n, .ref d', .ref l'])) (e2' : H d' = some (.dK kvs)) (e3' : H l' = some (.lst (ts.map V.ref))) :
    EqT K H (EqW K H 2) (.ref t) (.ref t') := by
  refine ⟨t, t', _, _, rfl, rfl, SqT.of e1, SqT.of e1', .cons (.inl ⟨rfl, rfl⟩) (.cons (.inr (.inr (.inl (.inr ?_)))) (.cons (.inr (.inr (.inl (.inl ?_)))) .nil))⟩
  · refine ⟨d, d', kvs, kvs, rfl, rfl, e2, e2', rfl, fun p hp => ?_⟩
    obtain ⟨j, hj⟩ := List.getElem?_of_mem hp
    exact ⟨p.2, valV_at nd hj, .inl ⟨rfl, hf p hp⟩⟩
  · refine ⟨l, l', _, _, rfl, rfl, SqL.of e3, SqL.of e3', ?_⟩
    clear e3 e3'
    induction ts with
    | nil => exact .nil
    | cons a r ih => exact .cons (.inr (.inl ⟨a, rfl, rfl⟩)) ih
theorem insV_flat (l : List (Str × Int)) : ∀ p ∈ insV l, flatB p.2 = true := fun p hp => by
  obtain ⟨x, _, rfl⟩ := List.mem_map.mp hp
  rfl
def OUT (C a : Addr) (H0 : Hp) (k : Nat) (σ : St) (H : Hp) : Prop := Wrap (∃ (S : Addr) (rs : List RS) (v2 v3 v4 v5 v6 v7 : Option V), σ = [some (.ref a), some (.ref S), v2, v3, v4, v5, v6, v7] ∧ ALL C H0 H S rs k)
section
variable {C : Addr} {H0 H H' : Hp} {S q : Addr} {rs : List RS} {k : Nat}
theorem PQ.more (z : PQ H0 H q S rs) {r : RS} {xs ys : List V} (s : Same H H') (hS : H' S = some (.lst xs)) (fw : H r.w = none) : PQ H0 (upd H' S (.lst ys)) q S (rs ++ [r]) := by
  obtain ⟨c, t, e, m⟩ := z.at_
  refine ⟨z.f, ⟨c, t, by rw [upd_ne z.nS]; exact s _ _ e, m⟩, z.nS, fun x hx => ?_⟩
  rcases List.mem_append.mp hx with hx | hx
  · exact z.nw x hx
  · rw [List.mem_singleton.mp hx]; exact ne_of_none e fw
end

structure Adr where
  (a_Rounds_init a_Rounds_enter a_Rounds_leave a_Rounds_wait a_Rounds_sweep a_Rounds_now a_Rounds_inside a_Rounds_waiting a_Rounds_twin a_pool a_take a_look a_deed a_emptied a_law : Addr)
  (d_Rounds_init d_Rounds_enter d_Rounds_leave d_Rounds_wait d_Rounds_sweep d_Rounds_now d_Rounds_inside d_Rounds_waiting d_Rounds_twin d_pool d_take d_look d_deed d_emptied d_law : FuncData)
  (c_Rounds : Addr)
structure Txt (K : PySem.W.Frag) (mg : Str → Option Value) (A : Adr) : Prop where
  F_Rounds_init : Fun K "__init__" "Rounds.__init__" s_Rounds_init A.a_Rounds_init A.d_Rounds_init
  b_Rounds_init : Binds K A.d_Rounds_init ["self"] []
  mk_Rounds : Mk K A.c_Rounds A.a_Rounds_init
  F_Rounds_enter : Fun K "enter" "Rounds.enter" s_Rounds_enter A.a_Rounds_enter A.d_Rounds_enter
  b_Rounds_enter : Binds K A.d_Rounds_enter ["self", "name"] []
  me_Rounds_enter : Meth K A.c_Rounds "enter" A.a_Rounds_enter
  F_Rounds_leave : Fun K "leave" "Rounds.leave" s_Rounds_leave A.a_Rounds_leave A.d_Rounds_leave
  b_Rounds_leave : Binds K A.d_Rounds_leave ["self", "name"] []
  me_Rounds_leave : Meth K A.c_Rounds "leave" A.a_Rounds_leave
  F_Rounds_wait : Fun K "wait" "Rounds.wait" s_Rounds_wait A.a_Rounds_wait A.d_Rounds_wait
  b_Rounds_wait : Binds K A.d_Rounds_wait ["self", "thing"] []
  me_Rounds_wait : Meth K A.c_Rounds "wait" A.a_Rounds_wait
  F_Rounds_sweep : Fun K "sweep" "Rounds.sweep" s_Rounds_sweep A.a_Rounds_sweep A.d_Rounds_sweep
  b_Rounds_sweep : Binds K A.d_Rounds_sweep ["self"] []
  me_Rounds_sweep : Meth K A.c_Rounds "sweep" A.a_Rounds_sweep
  F_Rounds_now : Fun K "now" "Rounds.now" s_Rounds_now A.a_Rounds_now A.d_Rounds_now
  b_Rounds_now : Binds K A.d_Rounds_now ["self"] []
  me_Rounds_now : Meth K A.c_Rounds "now" A.a_Rounds_now
  F_Rounds_inside : Fun K "inside" "Rounds.inside" s_Rounds_inside A.a_Rounds_inside A.d_Rounds_inside
  b_Rounds_inside : Binds K A.d_Rounds_inside ["self"] []
  me_Rounds_inside : Meth K A.c_Rounds "inside" A.a_Rounds_inside
  F_Rounds_waiting : Fun K "waiting" "Rounds.waiting" s_Rounds_waiting A.a_Rounds_waiting A.d_Rounds_waiting
  b_Rounds_waiting : Binds K A.d_Rounds_waiting ["self"] []
  me_Rounds_waiting : Meth K A.c_Rounds "waiting" A.a_Rounds_waiting
  F_Rounds_twin : Fun K "twin" "Rounds.twin" s_Rounds_twin A.a_Rounds_twin A.d_Rounds_twin
  b_Rounds_twin : Binds K A.d_Rounds_twin ["self"] []
  me_Rounds_twin : Meth K A.c_Rounds "twin" A.a_Rounds_twin
  F_pool : Fun K "_law_pool" "_law_pool" s_pool A.a_pool A.d_pool
  b_pool : Binds K A.d_pool ["_law_script", "_law_k"] []
  m_pool : mg "_law_pool" = some (.ref A.a_pool)
  F_take : Fun K "_law_take" "_law_take" s_take A.a_take A.d_take
  b_take : Binds K A.d_take ["_law_pool_here", "_law_many"] []
  m_take : mg "_law_take" = some (.ref A.a_take)
  F_look : Fun K "_law_look" "_law_look" s_look A.a_look A.d_look
  b_look : Binds K A.d_look ["_law_rings"] []
  m_look : mg "_law_look" = some (.ref A.a_look)
  F_deed : Fun K "_law_deed" "_law_deed" s_deed A.a_deed A.d_deed
  b_deed : Binds K A.d_deed ["_law_pool_here", "_law_rings"] []
  m_deed : mg "_law_deed" = some (.ref A.a_deed)
  F_emptied : Fun K "_law_emptied" "_law_emptied" s_emptied A.a_emptied A.d_emptied
  b_emptied : Binds K A.d_emptied ["_law_rings"] []
  m_emptied : mg "_law_emptied" = some (.ref A.a_emptied)
  F_law : Fun K "law" "law" s_law A.a_law A.d_law
  b_law : Binds K A.d_law ["_law_script"] []
  m_law : mg "law" = some (.ref A.a_law)
  cl_Rounds : Cls K A.c_Rounds
  mg_Rounds : mg "Rounds" = some (.ref A.c_Rounds)
  no_Rounds_own_now : NoAttr K A.c_Rounds "own_now"
  no_Rounds_own_inside : NoAttr K A.c_Rounds "own_inside"
  no_Rounds_own_waiting : NoAttr K A.c_Rounds "own_waiting"
  n_len : mg "len" = none
  n_all : mg "all" = none
  n_dict : mg "dict" = none
  n_list : mg "list" = none
  n_range : mg "range" = none
  n_max : mg "max" = none
  n_min : mg "min" = none
  n_enumerate : mg "enumerate" = none
  v_BEHIND : ∃ t, mg "BEHIND" = some (.int 2 t)
section
variable {P : Program} {w : World} {K : PySem.W.Frag} {mg : Str → Option Value} {base : Heap} {A : Adr}
theorem ok_pool (T : Txt K mg A) : FnOk P w K mg base CX0 1 A.a_pool A.d_pool ["_law_script", "_law_k"] (spPool K) := by
  refine T.F_pool.ok sc_pool (fun vs H Q E h => ?_) (fun cdv A' outer s H vs Q E hr h => ?_)
  · obtain ⟨a, ns, k, rfl, _⟩ := h
    rfl
  · obtain ⟨a, ns, k, rfl, hS, hl, hk, q⟩ := h
    have ek : (7919 : Int) * k < 1000000 := by omega
    refine ⟨_, (pss_cons (ps_set (i := 2) sc_pool.nd rfl (Or.inl rfl) pe_int)
      (cutAt (ps_if (pt_cmpR op_lt (pv 1) (pe_callB call_len_seq (by rfl) T.n_len PySem.boot_len (pa_cons (pv 0) pa_nil)) (nomark _))
      (pss_one (ps_set (i := 2) sc_pool.nd rfl (Or.inl rfl) (pe_ix ix_list (pv 0) (pv 1) (fun _ _ => rfl))))
      pss_nil)
      (pss_cons (ps_set (i := 3) sc_pool.nd rfl (Or.inl rfl) (pe_op op_mod (pe_op op_mul (pe_op op_add (pe_op op_add (pe_op op_mod (pv 2) pe_int) (pe_op op_mul (pe_op op_mul pe_int (pv 1)) (pv 1))) pe_int) pe_int) pe_int))
      (cutAt (ps_if (pt_cmpR op_lt (pv 2) (pe_op op_pow pe_int pe_int) (nomark _))
      (pss_one (ps_set (i := 2) sc_pool.nd rfl (Or.inl rfl) pe_int))
      pss_nil)
      (pss_one (ps_ret (pe_lst (pa_cons (pv 2) (pa_cons (pe_op op_add (pe_op op_mod (pe_op op_mul (pv 3) (pv 3)) pe_int) pe_int) pa_nil))))))))), ?_⟩
    refine ⟨fun σ H' => ∃ c : Int, σ = [some (.ref a), some (.int k), some (.int c), none] ∧ H' = H, ?_, ?_⟩
    · walk_at "go"
      refine ite2 (fun c => ?_) (fun c => ?_)
      · have c : (k : Int) < (ns.map V.int).length := of_decide_eq_true c
        rw [List.length_map] at c
        have hx : atI (ns.map V.int) (k : Int) = some (.int (ns[k]'(by omega))) := atI_nat (by rw [List.getElem?_map, List.getElem?_eq_getElem (by omega)]; rfl)
        walk_at "go"
        rfl
      · walk_at "go"
        rfl
    · rintro σ H' ⟨c, rfl, rfl⟩
      walk_at "go"
      show Cut _ _ _ [some (.ref a), some (.int k), some (.int c), some (.int ((c % 2147483629 + 7919 * (k : Int) * k + 11) * 48271 % 2147483647))] H'
      generalize hs : (c % 2147483629 + 7919 * (k : Int) * k + 11) * 48271 % 2147483647 = sd
      have h0 : 0 ≤ sd ∧ sd < 2147483647 := by omega
      refine ⟨fun σ H'' => ∃ c' : Int, σ = [some (.ref a), some (.int k), some (.int c'), some (.int sd)] ∧ H'' = H' ∧ 0 ≤ c', ?_, ?_⟩
      · walk_at "go"
        refine ite2 (fun c => ?_) (fun c => ?_)
        · walk_at "go"
          exact Int.le_refl _
        · walk_at "go"
          have c := of_decide_eq_false (Bool.eq_false_iff.mpr c)

          have e : (10 : Int) ^ (18 : Int).toNat = 1000000000000000000 := by decide
          omega
      · rintro σ H'' ⟨c', rfl, rfl, c0⟩
        walk_at "go"
        exact fun p hp => q p c' (sd * sd % 2147483587 + 1) hp c0 (by omega) (by omega)
theorem ok_take (T : Txt K mg A) : FnOk P w K mg base CX0 1 A.a_take A.d_take ["_law_pool_here", "_law_many"] spTake := by
  refine T.F_take.ok sc_take (fun vs H Q E h => ?_) (fun cdv A' outer s H vs Q E hr h => ?_)
  · obtain ⟨q, m, rfl, _⟩ := h
    rfl
  · obtain ⟨q, m, rfl, ⟨c, s, hq, h1, h2, h3⟩, m0, m1, k⟩ := h
    refine ⟨_, (pss_cons (ps_if (pt_cmpR op_gt (pe_ix ix_list (pv 0) pe_int (fun _ _ => rfl)) pe_int (nomark _))
      (pss_cons (ps_set (i := 2) sc_take.nd rfl (Or.inl rfl) (pe_op op_mod (pe_ix ix_list (pv 0) pe_int (fun _ _ => rfl)) (pv 1)))
      (pss_cons (ps_asg (pe_op op_fdiv (pe_ix ix_list (pv 0) pe_int (fun _ _ => rfl)) (pv 1)) (pg_sub (pv 0) pe_int set_list))
      (pss_one (ps_ret (pv 2)))))
      pss_nil)
      (pss_cons (ps_asg (pe_op op_mod (pe_op op_add (pe_op op_mul (pe_ix ix_list (pv 0) pe_int (fun _ _ => rfl)) pe_int) pe_int) pe_int) (pg_sub (pv 0) pe_int set_list))
      (pss_one (ps_ret (pe_op op_mod (pe_op op_fdiv (pe_op op_mod (pe_op op_mul (pe_ix ix_list (pv 0) pe_int (fun _ _ => rfl)) (pe_ix ix_list (pv 0) pe_int (fun _ _ => rfl))) pe_int) pe_int) (pv 1)))))), ?_⟩
    walk_at "go"
    refine ite2 (fun cp => ?_) (fun cp => ?_)
    · have cp : 0 < c := of_decide_eq_true cp
      walk_at "go"
      exact k (c % m) (c / m) s (Int.emod_nonneg _ (by omega)) (Int.emod_lt_of_pos _ m0) (Int.ediv_nonneg h1 (by omega)) h2 h3
    · walk_at "go"
      have z : ∀ r : Int, 0 ≤ r → r < m → Q (.int r) (upd H q (.lst [.int c, .int ((s * 48271 + 12345) % 2147483647)])) := fun r r0 r1 => k r c _ r0 r1 h1 (Int.emod_nonneg _ (by decide)) (by omega)
      exact z _ (Int.emod_nonneg _ (by omega)) (Int.emod_lt_of_pos _ m0)

theorem ok_Rounds_init (T : Txt K mg A) : FnOk P w K mg base CX0 1 A.a_Rounds_init A.d_Rounds_init ["self"] (spRInit A.c_Rounds) := by
  refine T.F_Rounds_init.ok sc_Rounds_init (fun vs H Q E h => ?_) (fun cdv A' outer s H vs Q E hr h => ?_)
  · obtain ⟨p, dx, rfl, _⟩ := h
    rfl
  · obtain ⟨p, dx, rfl, hp, k⟩ := h
    have cl := T.cl_Rounds; have n1 := T.no_Rounds_own_now; have n2 := T.no_Rounds_own_inside; have n3 := T.no_Rounds_own_waiting
    refine ⟨_, (pss_cons (ps_fld (pv 0) pe_int rfl)
      (pss_cons (ps_fld (pv 0) pe_dnewK rfl)
      (pss_one (ps_fld (pv 0) (pe_lst pa_nil) rfl)))), ?_⟩
    walk_at "go"
    intro i hi
    obtain ⟨nip, hi⟩ := un_upd hi
    have hp1 : (upd H p (.ins A.c_Rounds dx (putF "own_now" (.int 0) []))) p = some (.ins A.c_Rounds dx (putF "own_now" (.int 0) [])) := upd_same
    walk_at "go"
    intro w hw
    obtain ⟨nwp, hw⟩ := un_upd hw
    obtain ⟨nwi, hw⟩ := un_upd hw
    obtain ⟨_, hw⟩ := un_upd hw
    walk_at "go"
    refine k _ i w hi hw nwi.symm ⟨dx, upd_same⟩ ?_ ?_ (fun b u e nb => ?_)
    · rw [upd_ne nip, upd_ne nwi.symm, upd_ne nip]; exact upd_same
    · rw [upd_ne nwp]; exact upd_same
    · rw [upd_ne nb, upd_ne (ne_of_none e hw), upd_ne nb, upd_ne (ne_of_none e hi), upd_ne nb]
      exact e
theorem ok_Rounds_inside (T : Txt K mg A) : FnOk P w K mg base CX0 1 A.a_Rounds_inside A.d_Rounds_inside ["self"] (spInside A.c_Rounds) := by
  refine T.F_Rounds_inside.ok sc_Rounds_inside (fun vs H Q E h => ?_) (fun cdv A' outer s H vs Q E hr h => ?_)
  · obtain ⟨p, n, i, w, kvs, rfl, _⟩ := h
    rfl
  · obtain ⟨p, n, i, w, kvs, rfl, ⟨dx, hp⟩, hi, k⟩ := h
    have cl := T.cl_Rounds; have n2 := T.no_Rounds_own_inside; have f2 := rf_ins n i w
    refine ⟨_, (pss_one (ps_ret (pe_callTy call_dictD (by rfl) T.n_dict (by decide +kernel) (pa_cons (pe_fld (pv 0) rfl) pa_nil)))), ?_⟩
    walk_at "go"
    exact k
theorem ok_Rounds_waiting (T : Txt K mg A) : FnOk P w K mg base CX0 1 A.a_Rounds_waiting A.d_Rounds_waiting ["self"] (spWaiting A.c_Rounds) := by
  refine T.F_Rounds_waiting.ok sc_Rounds_waiting (fun vs H Q E h => ?_) (fun cdv A' outer s H vs Q E hr h => ?_)
  · obtain ⟨p, n, i, w, xs, rfl, _⟩ := h
    rfl
  · obtain ⟨p, n, i, w, xs, rfl, ⟨dx, hp⟩, hw, k⟩ := h
    have cl := T.cl_Rounds; have n3 := T.no_Rounds_own_waiting; have f3 := rf_wai n i w
    refine ⟨_, (pss_one (ps_ret (pe_callTy call_list_of (by rfl) T.n_list (by decide +kernel) (pa_cons (pe_fld (pv 0) rfl) pa_nil)))), ?_⟩
    walk_at "go"
    exact k
theorem ok_Rounds_wait (T : Txt K mg A) : FnOk P w K mg base CX0 1 A.a_Rounds_wait A.d_Rounds_wait ["self", "thing"] (spWait A.c_Rounds) := by
  refine T.F_Rounds_wait.ok sc_Rounds_wait (fun vs H Q E h => ?_) (fun cdv A' outer s H vs Q E hr h => ?_)
  · obtain ⟨p, x, n, i, w, xs, rfl, _⟩ := h
    rfl
  · obtain ⟨p, x, n, i, w, xs, rfl, ⟨dx, hp⟩, hw, hl, k⟩ := h
    have cl := T.cl_Rounds; have n1 := T.no_Rounds_own_now; have n3 := T.no_Rounds_own_waiting; have f1 := rf_now n i w; have f3 := rf_wai n i w
    refine ⟨_, (pss_one (ps_expr (pe_bm PySem.F.plainAttrs_list PySem.F.slot_list_append PySem.F.type_list_append mt_append (pe_fld (pv 0) rfl) (pa_cons (pe_tup (pa_cons (pv 1) (pa_cons (pe_fld (pv 0) rfl) pa_nil))) pa_nil)))), ?_⟩
    walk_at "go"
    intro t ht
    have ntw : w ≠ t := ne_of_none hw ht
    have hl : xs.length < sizeLine := Nat.lt_of_lt_of_le hl (by decide)
    walk_at "go"
    exact k t ht
theorem ok_Rounds_enter (T : Txt K mg A) : FnOk P w K mg base CX0 1 A.a_Rounds_enter A.d_Rounds_enter ["self", "name"] (spEnter A.c_Rounds) := by
  refine T.F_Rounds_enter.ok sc_Rounds_enter (fun vs H Q E h => ?_) (fun cdv A' outer s H vs Q E hr h => ?_)
  · obtain ⟨p, x, n, i, w, kvs, rfl, _⟩ := h
    rfl
  · obtain ⟨p, x, n, i, w, kvs, rfl, ⟨dx, hp⟩, hi, hl, hv, k⟩ := h
    have hu := hu_of hr
    have cl := T.cl_Rounds; have n1 := T.no_Rounds_own_now; have n2 := T.no_Rounds_own_inside; have f1 := rf_now n i w; have f2 := rf_ins n i w
    refine ⟨_, (pss_cons (ps_if (pt_cmp (pc_din hu (pv 1) (pe_fld (pv 0) rfl)))
      (pss_one ps_never)
      pss_nil)
      (pss_cons (ps_asg2 (pe_fld (pv 0) rfl) (pg_sub (pe_fld (pv 0) rfl) (pv 1) (set_dict hu)) (pg_name (i := 2) sc_Rounds_enter.nd rfl (Or.inl rfl)))
      (pss_one (ps_ret (pv 2))))), ?_⟩
    have dp : DPut H i (.str x) (.int n) (upd H i (.dK (putK kvs (Sum.inr x) (.int n)))) := DPut.k (k := Sum.inr x) hi (small1000 (by omega))
    have dg : DGet H i (.str x) none := by rw [← hv]; exact DGet.k (k := Sum.inr x) hi
    walk_at "go"
    exact k
theorem ok_Rounds_leave (T : Txt K mg A) : FnOk P w K mg base CX0 1 A.a_Rounds_leave A.d_Rounds_leave ["self", "name"] (spLeave A.c_Rounds) := by
  refine T.F_Rounds_leave.ok sc_Rounds_leave (fun vs H Q E h => ?_) (fun cdv A' outer s H vs Q E hr h => ?_)
  · obtain ⟨p, x, n, i, w, kvs, v, rfl, _⟩ := h
    rfl
  · obtain ⟨p, x, n, i, w, kvs, v, rfl, ⟨dx, hp⟩, hi, hv, k⟩ := h
    have cl := T.cl_Rounds; have n2 := T.no_Rounds_own_inside; have f2 := rf_ins n i w
    refine ⟨_, (pss_cons (ps_try_thru0 (pss_one (ps_set (i := 2) sc_Rounds_leave.nd rfl (Or.inl rfl) (pe_dpop1 (pe_fld (pv 0) rfl) (pv 1) ⟨rfl, rfl, rfl, rfl⟩))))
      (pss_one (ps_ret (pv 2)))), ?_⟩
    walk_at "go"
    have ek : V.str x = kV (Sum.inr x) := rfl
    walk_at "go"
    exact k
theorem ok_Rounds_sweep (T : Txt K mg A) : FnOk P w K mg base CX0 1 A.a_Rounds_sweep A.d_Rounds_sweep ["self"] (spSweep A.c_Rounds) := by
  refine T.F_Rounds_sweep.ok sc_Rounds_sweep (fun vs H Q E h => ?_) (fun cdv A' outer s H vs Q E hr h => ?_)
  · obtain ⟨p, n, i, w, kvs, rs, ts, ws, rfl, _⟩ := h
    rfl
  · obtain ⟨p, n, i, w, kvs, rs, ts, ws, rfl, ⟨dx, hp⟩, hi, hr', hw, hws, hl, hl2, k⟩ := h
    have cl := T.cl_Rounds; have n1 := T.no_Rounds_own_now; have n2 := T.no_Rounds_own_inside; have n3 := T.no_Rounds_own_waiting
    have f1 := rf_now n i w; have f2 := rf_ins n i w; have f3 := rf_wai n i w
    have nip : p ≠ i := ne_of hp hi (by intro z; cases z)
    obtain ⟨_, v_BEHIND⟩ := T.v_BEHIND
    refine ⟨_, (cutAt (ps_if (pt_val (pe_callB (cr_all rfl) (by rfl) T.n_all (by decide +kernel) (pa_cons (pe_lk (pe_lc (own := [("noted", 2)]) rfl sc_Rounds_sweep.nd (pi_w (pi_values (pe_fld (pv 0) rfl))) (blkOk_by (own := [("noted", 2)]) (N := n_Rounds_sweep) (sc := defScope s_Rounds_sweep) (by decide +kernel)) (fun _ _ _ _ _ => viaG (pg_name (i := 2) sc_Rounds_sweep.nd rfl (Or.inl rfl)) (by first | rfl | (dsimp only [Cx.blk]; done) | (dsimp only [Cx.blk]; rfl))) (fun _ _ _ _ _ => viaT pts_nil (by first | rfl | (dsimp only [Cx.blk]; done) | (dsimp only [Cx.blk]; rfl))) (fun _ _ _ _ _ => viaE (pe_cmpR op_eq (pv 2) (pe_fld (pv 0) rfl) (nomark _)) (by first | rfl | (dsimp only [Cx.blk]; done) | (dsimp only [Cx.blk]; rfl))))) pa_nil)))
      (pss_one (ps_fldaug (pv 0) pe_int in_add))
      pss_nil)
      (pss_cons (ps_setLc (i := 1) (own := [("thing", 3), ("since", 4)]) rfl sc_Rounds_sweep.nd rfl rfl (sw_true rfl rfl rfl (by decide +kernel)) (pi_w (pi_list (pe_fld (pv 0) rfl))) (blkOk_by (own := [("thing", 3), ("since", 4)]) (N := n_Rounds_sweep) (sc := defScope s_Rounds_sweep) (by decide +kernel)) (fun _ _ _ _ _ => viaG (pg_tup (n := 2) rfl (pgs_cons (pg_name (i := 3) sc_Rounds_sweep.nd rfl (Or.inl rfl)) (pgs_cons (pg_name (i := 4) sc_Rounds_sweep.nd rfl (Or.inl rfl)) pgs_nil))) (by first | rfl | (dsimp only [Cx.blk]; done) | (dsimp only [Cx.blk]; rfl))) (fun _ _ _ _ _ => viaT (pts_one (pt_cmpR op_le (pe_op op_add (pv 4) (pe_glob (v := V.int 2) rfl v_BEHIND ⟨_, rfl⟩)) (pe_fld (pv 0) rfl) (nomark _))) (by first | rfl | (dsimp only [Cx.blk]; done) | (dsimp only [Cx.blk]; rfl))) (fun _ _ _ _ _ => viaE (pv 3) (by first | rfl | (dsimp only [Cx.blk]; done) | (dsimp only [Cx.blk]; rfl))))
      (pss_cons (ps_fld (pv 0) (pe_lc (own := [("thing", 3), ("since", 4)]) rfl sc_Rounds_sweep.nd (pi_w (pi_list (pe_fld (pv 0) rfl))) (blkOk_by (own := [("thing", 3), ("since", 4)]) (N := n_Rounds_sweep) (sc := defScope s_Rounds_sweep) (by decide +kernel)) (fun _ _ _ _ _ => viaG (pg_tup (n := 2) rfl (pgs_cons (pg_name (i := 3) sc_Rounds_sweep.nd rfl (Or.inl rfl)) (pgs_cons (pg_name (i := 4) sc_Rounds_sweep.nd rfl (Or.inl rfl)) pgs_nil))) (by first | rfl | (dsimp only [Cx.blk]; done) | (dsimp only [Cx.blk]; rfl))) (fun _ _ _ _ _ => viaT (pts_one (pt_cmpR op_gt (pe_op op_add (pv 4) (pe_glob (v := V.int 2) rfl v_BEHIND ⟨_, rfl⟩)) (pe_fld (pv 0) rfl) (nomark _))) (by first | rfl | (dsimp only [Cx.blk]; done) | (dsimp only [Cx.blk]; rfl))) (fun _ _ _ _ _ => viaE (pe_tup (pa_cons (pv 3) (pa_cons (pv 4) pa_nil))) (by first | rfl | (dsimp only [Cx.blk]; done) | (dsimp only [Cx.blk]; rfl)))) rfl)
      (pss_one (ps_ret (pv 1)))))), ?_⟩
    refine ⟨fun σ H4 => σ = [some (.ref p), none, none, none, none] ∧ H4 p = some (.ins A.c_Rounds dx (rf (nxt n rs) i w)) ∧ ∀ b u, H b = some u → b ≠ p → H4 b = some u, ?_, ?_⟩
    · walk_at "go"
      refine ⟨i, _, hi, True.intro, fun od => ?_⟩
      have hp1 : upd H i (.frz od (.dK kvs)) p = some (.ins A.c_Rounds dx (rf n i w)) := by rw [upd_ne nip]; exact hp
      have hi1 : upd H i (.frz od (.dK kvs)) i = some (.frz od (.dK kvs)) := upd_same
      generalize hH1 : upd H i (.frz od (.dK kvs)) = H1 at hp1 hi1
      have hi2 : ∀ H2 : Hp, Same H1 H2 → H2 i = some (.frz od (.dK kvs)) := fun H2 s => s _ _ hi1
      have hp2 : ∀ H2 : Hp, Same H1 H2 → H2 p = some (.ins A.c_Rounds dx (rf n i w)) := fun H2 s => s _ _ hp1
      walk_at "go"
      refine Wrap.mk fun D hD => ?_
      have hrl : rs.length = kvs.length := by have e := congrArg List.length hr'; rw [List.length_map, List.length_map] at e; exact e.symm
      refine lc_it walk_values (CP H1 D fun j => (rs.take j).map fun r => V.bl (decide (V.int r = V.int n))) (.start hD rfl) (fun j H2 _ c => hi2 _ c.sm) ?_ ?_
      · rintro j x H2 H3 hj c ⟨rfl, key, hx⟩
        have hx' : (rs.map V.int)[j]? = some x := by rw [← hr', List.getElem?_map, hx]; rfl
        rw [List.getElem?_map] at hx'
        cases hr2 : rs[j]? with
        | none => rw [hr2] at hx'; cases hx'
        | some r =>
          rw [hr2] at hx'
          obtain rfl : V.int r = x := Option.some.inj hx'
          have hp3 := hp2 _ c.sm
          have hD3 := c.at_
          have hlen : ((rs.take j).map fun r => V.bl (decide (V.int r = V.int n))).length < sizeLine := by
            rw [List.length_map, List.length_take]
            exact small1000 (by omega)
          walk_at "go"
          exact c.push (Same.refl _) (by show List.map _ (rs.take (j + 1)) = _; rw [take_snoc hr2, List.map_append]; rfl)
      · intro H2 c
        have hi3 := hi2 _ c.sm
        have nDi : D ≠ i := (ne_of_none hi1 hD).symm
        have hD3 : upd H2 i (.dK kvs) D = some (.lst ((rs.map fun r => decide (r = n)).map V.bl)) := by
          rw [upd_ne nDi, c.at_, ← hrl, List.take_length, List.map_map]
          congr 2
          refine List.map_congr_left fun r _ => ?_
          show V.bl (decide (V.int r = V.int n)) = V.bl (decide (r = n))
          congr 1
          simp
        walk_at "go"
        -- the heap as it was, but for what came new
        have hrest : ∀ b u, H b = some u → upd H2 i (.dK kvs) b = some u := fun b u e => by
          by_cases hb : b = i
          · rw [hb, upd_same, ← hi, ← hb]; exact e
          · rw [upd_ne hb]
            refine c.sm _ _ ?_
            rw [← hH1, upd_ne hb]; exact e
        generalize upd H2 i (.dK kvs) = H3 at hrest
        have hall : (rs.map fun r => decide (r = n)).all id = rs.all fun r => decide (r = n) := by rw [List.all_map]; rfl
        with_reducible refine by2 (fun c => ?_) (fun c => ?_)
        · have hp3 := hrest p _ hp
          have hrl := rf_len n i w
          walk_at "go"
          refine ⟨?_, fun b u e nb => by rw [upd_ne nb]; exact hrest b u e⟩
          rw [upd_same, rf_putN]
          unfold nxt
          rw [← hall, if_pos c]
        · walk_at "go"
          refine ⟨?_, fun b u e nb => hrest b u e⟩
          rw [hrest p _ hp]
          unfold nxt
          rw [← hall, if_neg (by rw [c]; decide)]
    · rintro σ H4 ⟨rfl, hp4, hk4⟩
      generalize nxt n rs = m at hp4 k
      have f1 := rf_now m i w; have f3 := rf_wai m i w
      have npw : w ≠ p := ne_of hw hp (by intro z; cases z)
      have hw4 := hk4 w _ hw npw
      have ntp : ∀ t x, Row H t x → t ≠ p := fun t x e => ne_of e hp (by intro z; cases z)
      have hws4 : Paired (Row H4) ts ws := Paired.mapP hws fun t x e => hk4 t _ e (ntp t x e)
      walk_at "go"
      refine Wrap.mk fun D hD => ?_
      refine lc_it walk_list (CP H4 D fun j => ((ws.take j).filter (isOld m)).map (·.1)) (.start hD rfl) (fun j H2 _ c => SqL.of (c.sm _ _ hw4)) ?_ ?_
      · rintro j x H2 H3 hj c ⟨rfl, hx⟩
        rw [List.getElem?_map] at hx
        cases ht : ts[j]? with
        | none => rw [ht] at hx; cases hx
        | some t =>
          rw [ht] at hx
          obtain rfl : V.ref t = x := Option.some.inj hx
          obtain ⟨y, hy, hrow⟩ := Paired.at hws4 ht
          have hrow2 : H3 t = some (.tup [y.1, .int y.2]) := c.sm _ _ hrow
          have hp5 := c.sm _ _ hp4
          have hD5 := c.at_
          have hlen : (((ws.take j).filter (isOld m)).map (·.1)).length < sizeLine := by
            rw [List.length_map]
            exact Nat.lt_of_le_of_lt (List.length_filter_le _ _) (Nat.lt_of_le_of_lt (by rw [List.length_take]; exact Nat.min_le_right _ _) (Nat.lt_of_lt_of_le hl2 (by decide)))
          walk_at "go"
          with_reducible refine by2 (fun b => ?_) (fun b => ?_)
          · walk_at "go"
            exact c.push (Same.refl _) (fm_yes (f := isOld m) (g := fun x : V × Int => x.1) hy b)
          · exact c.skip (Same.refl _) (fm_no (f := isOld m) (g := fun x : V × Int => x.1) hy b)
      · intro H5 c
        have hlen : (ts.map V.ref).length = ws.length := by rw [List.length_map]; exact hws.length
        have hp5 := c.sm _ _ hp4
        have hw5 := c.sm _ _ hw4
        have hD5 : H5 D = some (.lst ((ws.filter (isOld m)).map (·.1))) := by rw [c.at_, hlen, List.take_length]
        have hws5 : Paired (Row H5) ts ws := Paired.mapP hws4 fun t x e => c.sm t _ e
        have hk5 : ∀ b u, H b = some u → b ≠ p → H5 b = some u := fun b u e nb => c.sm _ _ (hk4 b u e nb)
        walk_at "go"
        refine Wrap.mk fun F hF => ?_
        refine lc_it walk_list (fun j H' => H5 F = none ∧ Same H5 H' ∧ ∃ ts' : List Addr, H' F = some (.lst (ts'.map V.ref)) ∧ Paired (Row H') ts' ((ws.take j).filter fun x => !isOld m x)) ⟨hF, same_new hF, [], upd_same, .nil⟩ (fun j H2 _ c => SqL.of (c.2.1 _ _ hw5)) ?_ ?_
        · rintro j x H2 H3 hj ⟨_, sm, ts', hF2, hr2⟩ ⟨rfl, hx⟩
          rw [List.getElem?_map] at hx
          cases ht : ts[j]? with
          | none => rw [ht] at hx; cases hx
          | some t =>
            rw [ht] at hx
            obtain rfl : V.ref t = x := Option.some.inj hx
            obtain ⟨y, hy, hrow⟩ := Paired.at hws5 ht
            have hrow2 : H3 t = some (.tup [y.1, .int y.2]) := sm _ _ hrow
            have hp6 := sm _ _ hp5
            have hlen : (ts'.map V.ref).length < sizeLine := by
              rw [List.length_map, hr2.length]
              exact Nat.lt_of_le_of_lt (List.length_filter_le _ _) (Nat.lt_of_le_of_lt (by rw [List.length_take]; exact Nat.min_le_right _ _) (Nat.lt_of_lt_of_le hl2 (by decide)))
            walk_at "go"
            with_reducible refine by2 (fun b => ?_) (fun b => ?_)
            · have b' : isOld m y = false := by
                have b := of_decide_eq_true b
                exact decide_eq_false (by omega)
              walk_at "go"
              intro q hq
              have nFq : F ≠ q := ne_of_none hF2 hq
              walk_at "go"
              have e : Paired (Row (upd H3 q (.tup [y.1, .int y.2]))) ts' ((ws.take j).filter fun x => !isOld m x) := Paired.mapP hr2 fun t x e => (same_new hq) t _ e
              refine ⟨same_upd (sm.trans (same_new hq)) hF, ts' ++ [q], by rw [upd_same, List.map_append]; rfl, ?_⟩
              have e2 := fm_yes (f := fun x => !isOld m x) (g := id) hy (by simp [b'])
              rw [List.map_id, List.map_id] at e2
              rw [e2]
              have nq : ∀ {t : Addr} {z : V × Int}, Row (upd H3 q (.tup [y.1, .int y.2])) t z → Row (upd (upd H3 q (.tup [y.1, .int y.2])) F (.lst (ts'.map V.ref ++ [V.ref q]))) t z := fun {t z} e => by
                have nt : t ≠ F := fun z => by
                  have e : upd H3 q (.tup [y.1, .int y.2]) t = some (.tup _) := e
                  rw [z, upd_ne nFq, hF2] at e; cases e
                show upd _ _ _ t = _
                rw [upd_ne nt]; exact e
              exact Paired.snoc (Paired.mapP e fun t z e => nq e) (nq upd_same)
            · have b' : isOld m y = true := by
                have b := of_decide_eq_false b
                exact decide_eq_true (by omega)
              refine ⟨hF, sm, ts', hF2, ?_⟩
              have e := fm_no (f := fun x => !isOld m x) (g := id) hy (by simp [b'])
              rw [List.map_id, List.map_id] at e
              rw [e]; exact hr2
        · rintro H6 ⟨_, sm, ts', hF6, hr6⟩
          have hp6 := sm _ _ hp5
          have hrl := rf_len m i w
          walk_at "go"
          rw [rf_putW]
          have hD6 : (upd H6 p (.ins A.c_Rounds dx (rf m i F))) D = some (.lst ((ws.filter (isOld m)).map (·.1))) := by
            rw [upd_ne (ne_of_none hp4 hD).symm]; exact sm _ _ hD5
          have nFp : F ≠ p := (ne_of_none hp5 hF).symm
          have hlen2 : (ts.map V.ref).length = ws.length := by rw [List.length_map]; exact hws.length
          rw [hlen2, List.take_length] at hr6
          refine k _ D F ts' ?_ ?_ (ne_of_none hD5 hF) (fun b u e nb => by rw [upd_ne nb]; exact sm _ _ (hk5 b u e nb)) ⟨dx, upd_same⟩ hD6 (by rw [upd_ne nFp]; exact hF6) ?_
          · cases e : H D with
            | none => rfl
            | some u => rw [hk4 D u e (ne_of_none hp4 hD).symm] at hD; cases hD
          · cases e : H F with
            | none => rfl
            | some u => rw [hk5 F u e nFp] at hF; cases hF
          · refine Paired.mapP hr6 fun t z e => ?_
            have nt : t ≠ p := ne_of e hp6 (by intro z; cases z)
            show upd _ _ _ t = _
            rw [upd_ne nt]; exact e

theorem ok_Rounds_now (T : Txt K mg A) : FnOk P w K mg base CX0 1 A.a_Rounds_now A.d_Rounds_now ["self"] (spNow A.c_Rounds) := by
  refine T.F_Rounds_now.ok sc_Rounds_now (fun vs H Q E h => ?_) (fun cdv A' outer s H vs Q E hr h => ?_)
  · obtain ⟨p, n, i, w, rfl, _⟩ := h
    rfl
  · obtain ⟨p, n, i, w, rfl, ⟨dx, hp⟩, k⟩ := h
    have cl := T.cl_Rounds; have n1 := T.no_Rounds_own_now; have f1 := rf_now n i w
    refine ⟨_, (pss_one (ps_ret (pe_fld (pv 0) rfl))), ?_⟩
    walk_at "go"
    exact k
theorem ok_Rounds_twin (T : Txt K mg A) : FnOk P w K mg base CX0 3 A.a_Rounds_twin A.d_Rounds_twin ["self"] (spTwin A.c_Rounds) := by
  refine T.F_Rounds_twin.ok sc_Rounds_twin (fun vs H Q E h => ?_) (fun cdv A' outer s H vs Q E hr h => ?_)
  · obtain ⟨p, n, i, w, kvs, xs, rfl, _⟩ := h
    rfl
  · obtain ⟨p, n, i, w, kvs, xs, rfl, ⟨dx, hp⟩, hi, hw, k⟩ := h
    have cl := T.cl_Rounds; have n1 := T.no_Rounds_own_now; have n2 := T.no_Rounds_own_inside; have n3 := T.no_Rounds_own_waiting; have f1 := rf_now n i w
    refine ⟨_, (pss_cons (ps_set (i := 1) sc_Rounds_twin.nd rfl (Or.inl rfl) (pe_make0 T.mk_Rounds (ok_Rounds_init T) (hr.mono (by decide)) rfl T.mg_Rounds T.b_Rounds_init .nil pass0))
      (pss_cons (ps_fld (pv 1) (pe_fld (pv 0) rfl) rfl)
      (pss_cons (ps_fld (pv 1) (pe_meth0 (pv 0) T.cl_Rounds T.me_Rounds_inside (ok_Rounds_inside T) (hr.mono (by decide)) T.b_Rounds_inside .nil pass0) rfl)
      (pss_cons (ps_fld (pv 1) (pe_meth0 (pv 0) T.cl_Rounds T.me_Rounds_waiting (ok_Rounds_waiting T) (hr.mono (by decide)) T.b_Rounds_waiting .nil pass0) rfl)
      (pss_one (ps_ret (pv 1))))))), ?_⟩
    walk_at "go"
    intro p' dx' np ndx nex
    have hx0 : (upd (upd H dx' (.own p')) p' (.ins A.c_Rounds dx' [])) p' = some (.ins A.c_Rounds dx' []) := upd_same
    walk_at "go"
    intro H1 i1 w1 fi fw niw ob hi1 hw1 kp
    have s1 : Same H H1 := fun b u e => kp b u (by rw [upd_ne (ne_of_none e np), upd_ne (ne_of_none e ndx)]; exact e) (ne_of_none e np)
    obtain ⟨dxo, ob⟩ := ob
    have hp1 := s1 _ _ hp
    have npp : p ≠ p' := ne_of_none hp np
    have nl : (rf 0 i1 w1).length < 1000 := rf_len _ _ _
    have fi0 : H i1 = none := (un_upd (un_upd fi).2).2
    have fw0 : H w1 = none := (un_upd (un_upd fw).2).2
    walk_at "go"
    rw [rf_putN]
    have s2 : Same H (upd H1 p' (.ins A.c_Rounds dxo (rf n i1 w1))) := same_upd s1 np
    have ro2 : RObj A.c_Rounds (upd H1 p' (.ins A.c_Rounds dxo (rf n i1 w1))) p n i w := ⟨dx, s2 _ _ hp⟩
    have ob2 : upd H1 p' (.ins A.c_Rounds dxo (rf n i1 w1)) p' = some (.ins A.c_Rounds dxo (rf n i1 w1)) := upd_same
    have hi2 := s2 _ _ hi
    have hp2 := s2 _ _ hp
    have hw2 := s2 _ _ hw
    have l2 : (rf n i1 w1).length < 1000 := rf_len _ _ _
    have g1 : (rf n i w).lookup ("inside" : Str) = none := rf_no _ _ _ (by decide +kernel) (by decide +kernel) (by decide +kernel)
    have g2 : (rf n i w).lookup ("waiting" : Str) = none := rf_no _ _ _ (by decide +kernel) (by decide +kernel) (by decide +kernel)
    generalize upd H1 p' (.ins A.c_Rounds dxo (rf n i1 w1)) = H2 at *
    walk_at "go"
    intro d hd
    have npd : p' ≠ d := ne_of_none ob2 hd
    walk_at "go"
    rw [rf_putI]
    have hd0 : H d = none := s2.free hd
    have s3 : Same H (upd (upd H2 d (.dK kvs)) p' (.ins A.c_Rounds dxo (rf n d w1))) := same_upd (same_upd s2 hd0) np
    have hd3 : upd (upd H2 d (.dK kvs)) p' (.ins A.c_Rounds dxo (rf n d w1)) d = some (.dK kvs) := by rw [upd_ne npd.symm]; exact upd_same
    have ob3 : upd (upd H2 d (.dK kvs)) p' (.ins A.c_Rounds dxo (rf n d w1)) p' = some (.ins A.c_Rounds dxo (rf n d w1)) := upd_same
    have hp3 := s3 _ _ hp
    have hw3 := s3 _ _ hw
    have l3 : (rf n d w1).length < 1000 := rf_len _ _ _
    have ro3 : RObj A.c_Rounds (upd (upd H2 d (.dK kvs)) p' (.ins A.c_Rounds dxo (rf n d w1))) p n i w := ⟨dx, hp3⟩
    generalize upd (upd H2 d (.dK kvs)) p' (.ins A.c_Rounds dxo (rf n d w1)) = H3 at *
    walk_at "go"
    intro l hl
    have npl : p' ≠ l := ne_of_none ob3 hl
    walk_at "go"
    rw [rf_putW]
    have hl0 : H l = none := s3.free hl
    refine k _ p' d l np hd0 hl0 (same_upd (same_upd s3 hl0) np) ⟨dxo, upd_same⟩ ?_ ?_
    · rw [upd_ne npd.symm, upd_ne (ne_of_none hd3 hl)]; exact hd3
    · rw [upd_ne npl.symm]; exact upd_same

theorem no_enter (n : Int) (i w : Addr) : (rf n i w).lookup ("enter" : Str) = none := rf_no _ _ _ (by decide +kernel) (by decide +kernel) (by decide +kernel)
theorem no_leave (n : Int) (i w : Addr) : (rf n i w).lookup ("leave" : Str) = none := rf_no _ _ _ (by decide +kernel) (by decide +kernel) (by decide +kernel)
theorem no_wait (n : Int) (i w : Addr) : (rf n i w).lookup ("wait" : Str) = none := rf_no _ _ _ (by decide +kernel) (by decide +kernel) (by decide +kernel)
theorem no_sweep (n : Int) (i w : Addr) : (rf n i w).lookup ("sweep" : Str) = none := rf_no _ _ _ (by decide +kernel) (by decide +kernel) (by decide +kernel)
theorem no_now (n : Int) (i w : Addr) : (rf n i w).lookup ("now" : Str) = none := rf_no _ _ _ (by decide +kernel) (by decide +kernel) (by decide +kernel)
theorem no_inside (n : Int) (i w : Addr) : (rf n i w).lookup ("inside" : Str) = none := rf_no _ _ _ (by decide +kernel) (by decide +kernel) (by decide +kernel)
theorem no_waiting (n : Int) (i w : Addr) : (rf n i w).lookup ("waiting" : Str) = none := rf_no _ _ _ (by decide +kernel) (by decide +kernel) (by decide +kernel)
theorem no_twin (n : Int) (i w : Addr) : (rf n i w).lookup ("twin" : Str) = none := rf_no _ _ _ (by decide +kernel) (by decide +kernel) (by decide +kernel)
theorem ok_look (T : Txt K mg A) : FnOk P w K mg base CX0 3 A.a_look A.d_look ["_law_rings"] (spLook A.c_Rounds) := by
  refine T.F_look.ok sc_look (fun vs H Q E h => ?_) (fun cdv A' outer s H vs Q E hr h => ?_)
  · obtain ⟨p, n, i, w, kvs, xs, rfl, _⟩ := h
    rfl
  · obtain ⟨p, n, i, w, kvs, xs, rfl, ⟨dx, hp⟩, hi, hw, k⟩ := h
    have ro : RObj A.c_Rounds H p n i w := ⟨dx, hp⟩
    have f1 := no_now n i w; have f2 := no_inside n i w; have f3 := no_waiting n i w
    refine ⟨_, (pss_one (ps_ret (pe_tup (pa_cons (pe_meth0 (pv 0) T.cl_Rounds T.me_Rounds_now (ok_Rounds_now T) (hr.mono (by decide)) T.b_Rounds_now .nil pass0) (pa_cons (pe_meth0 (pv 0) T.cl_Rounds T.me_Rounds_inside (ok_Rounds_inside T) (hr.mono (by decide)) T.b_Rounds_inside .nil pass0) (pa_cons (pe_meth0 (pv 0) T.cl_Rounds T.me_Rounds_waiting (ok_Rounds_waiting T) (hr.mono (by decide)) T.b_Rounds_waiting .nil pass0) pa_nil)))))), ?_⟩
    walk_at "go"
    intro d hd
    have hp2 : upd H d (.dK kvs) p = some (.ins A.c_Rounds dx (rf n i w)) := by rw [upd_ne (ne_of_none hp hd)]; exact hp
    have ro2 : RObj A.c_Rounds (upd H d (.dK kvs)) p n i w := ⟨dx, hp2⟩
    walk_at "go"
    intro l hl
    obtain ⟨nld, hl0⟩ := un_upd hl
    walk_at "go"
    intro t ht
    obtain ⟨ntl, ht1⟩ := un_upd ht
    obtain ⟨ntd, ht0⟩ := un_upd ht1
    walk_at "go"
    refine k _ t d l ht0 hd hl0 (same_upd (same_upd (same_upd (Same.refl _) hd) hl0) ht0) upd_same ?_ ?_
    · rw [upd_ne ntd.symm, upd_ne nld.symm]; exact upd_same
    · rw [upd_ne ntl.symm]; exact upd_same
theorem ok_deed (T : Txt K mg A) : FnOk P w K mg base CX0 3 A.a_deed A.d_deed ["_law_pool_here", "_law_rings"] (spDeed A.c_Rounds) := by
  refine T.F_deed.ok sc_deed (fun vs H Q E h => ?_) (fun cdv A' outer s H vs Q E hr h => ?_)
  · obtain ⟨q, r, rfl, _⟩ := h
    rfl
  · obtain ⟨q, r, rfl, za, R, nqw, hil, hwl, k⟩ := h
    have hu := hu_of hr
    refine ⟨_, (pss_cons (ps_set (i := 2) sc_deed.nd rfl (Or.inl rfl) (pe_ix ix_str pe_str (pe_call (ok_take T) (hr.mono (by decide)) rfl T.m_take T.F_take.kp T.b_take .nil pass0 (pa_cons (pv 0) (pa_cons pe_int pa_nil))) (fun _ _ => rfl)))
      (pss_cons (ps_set (i := 3) sc_deed.nd rfl (Or.inl rfl) (pe_call (ok_take T) (hr.mono (by decide)) rfl T.m_take T.F_take.kp T.b_take .nil pass0 (pa_cons (pv 0) (pa_cons pe_int pa_nil))))
      (pss_one (ps_if (PW.pt (pw_and (pt_cmpR op_eq (pv 3) pe_int (nomark _)) (pw_and1 (pt_cmp (pc_dnotin hu (pv 2) (pe_meth0 (pv 1) T.cl_Rounds T.me_Rounds_inside (ok_Rounds_inside T) (hr.mono (by decide)) T.b_Rounds_inside .nil pass0))))))
      (pss_one (ps_expr (pe_meth (pv 1) T.cl_Rounds T.me_Rounds_enter (ok_Rounds_enter T) (hr.mono (by decide)) T.b_Rounds_enter .nil pass0 (pa_cons (pv 2) pa_nil))))
      (pss_one (ps_if (pt_cmpR op_eq (pv 3) pe_int (nomark _))
      (pss_one (ps_expr (pe_meth (pv 1) T.cl_Rounds T.me_Rounds_leave (ok_Rounds_leave T) (hr.mono (by decide)) T.b_Rounds_leave .nil pass0 (pa_cons (pv 2) pa_nil))))
      (pss_one (ps_if (pt_cmpR op_lt (pv 3) pe_int (nomark _))
      (pss_one (ps_expr (pe_meth (pv 1) T.cl_Rounds T.me_Rounds_wait (ok_Rounds_wait T) (hr.mono (by decide)) T.b_Rounds_wait .nil pass0 (pa_cons (pe_call (ok_take T) (hr.mono (by decide)) rfl T.m_take T.F_take.kp T.b_take .nil pass0 (pa_cons (pv 0) (pa_cons pe_int pa_nil))) pa_nil))))
      (pss_one (ps_expr (pe_meth0 (pv 1) T.cl_Rounds T.me_Rounds_sweep (ok_Rounds_sweep T) (hr.mono (by decide)) T.b_Rounds_sweep .nil pass0))))))))))), ?_⟩
    walk_at "go"
    intro r1 c s r10 r11 c0 s0 s1
    have R1 := R.drawn za nqw c s
    have za1 := pool_drawn (H := H) (q := q) c0 s0 s1
    have k1 : ∀ b u, H b = some u → b ≠ q → upd H q (.lst [.int c, .int s]) b = some u := fun b u e n => by rw [upd_ne n]; exact e
    generalize upd H q (.lst [.int c, .int s]) = H1 at *
    obtain ⟨ch, hch, _⟩ := atI_some (xs := ("abc" : Str).cps.toList) r10 (by rw [abc_len]; exact r11)
    have hok := abc_ok
    walk_at "go"
    intro r2 c s r20 r21 c0 s0 s1
    have R2 := R1.drawn za1 nqw c s
    have za2 := pool_drawn (H := H1) (q := q) c0 s0 s1
    have k2 : ∀ b u, H b = some u → b ≠ q → upd H1 q (.lst [.int c, .int s]) b = some u := fun b u e n => by rw [upd_ne n]; exact k1 b u e n
    generalize upd H1 q (.lst [.int c, .int s]) = H2 at *
    clear R1 za1 k1 hch
    generalize (⟨#[ch]⟩ : Str) = nm
    have ro := R2.hp; have hi2 := R2.hi; have hw2 := R2.hw
    obtain ⟨dx, hp2⟩ := id ro
    have f1 := no_enter r.now r.i r.w; have f2 := no_leave r.now r.i r.w; have f3 := no_wait r.now r.i r.w; have f4 := no_sweep r.now r.i r.w; have f5 := no_inside r.now r.i r.w
    have fq : ∃ l, H2 q = some (.lst l) := by obtain ⟨_, _, e, _⟩ := za2; exact ⟨_, e⟩
    obtain ⟨lq, fq⟩ := fq
    have npi : r.i ≠ r.p := ne_of hi2 hp2 (by intro z; cases z)
    have npw : r.w ≠ r.p := ne_of hw2 hp2 (by intro z; cases z)
    have niw : r.w ≠ r.i := ne_of hw2 hi2 (by intro z; cases z)
    dsimp only [gName]
    walk_at "go"
    with_reducible refine by2 (fun c => ?_) (fun c => ?_)
    · have c : r2 = 0 := by simpa using c
      subst c
      walk_at "go"
      intro d hd
      have s2 : Same H2 (upd H2 d (.dK (insV r.ins))) := same_new hd
      have R3 := R2.same s2
      have hd3 : upd H2 d (.dK (insV r.ins)) d = some (.dK (insV r.ins)) := upd_same
      have k3 : ∀ b u, H b = some u → b ≠ q → upd H2 d (.dK (insV r.ins)) b = some u := fun b u e n => s2 _ _ (k2 b u e n)
      generalize upd H2 d (.dK (insV r.ins)) = H3 at *
      have dg : DGet H3 d (.str nm) (valV (insV r.ins) (Sum.inr nm)) := DGet.k (k := Sum.inr nm) hd3
      have ro3 := R3.hp; have hi3 := R3.hi
      obtain ⟨dx3, hp3⟩ := id ro3
      have hln : (insV r.ins).length < 1000 := by rw [insV_len]; omega
      walk_at "go"
      with_reducible refine by2 (fun c => ?_) (fun c => ?_)
      · have hv : valV (insV r.ins) (Sum.inr nm) = none := by
          cases e : valV (insV r.ins) (Sum.inr nm) with
          | none => rfl
          | some v => rw [e] at c; simp at c
        obtain ⟨e1, e2⟩ := insV_put r.now hv
        walk_at "go"
        refine k _ { r with ins := r.ins ++ [(nm, r.now)] } rfl rfl (.inl rfl) ?_ (by show (r.ins ++ _).length ≤ _; rw [List.length_append, List.length_singleton]; exact Nat.le_refl _) (Nat.le_succ _) (fun b u e n1 n2 n3 n4 => by rw [upd_ne n3]; exact k3 b u e n1)
        refine ⟨⟨dx3, by show upd H3 r.i _ r.p = _; rw [upd_ne npi.symm]; exact hp3⟩, by show upd H3 r.i _ r.i = _; rw [upd_same, e1], by show upd H3 r.i _ r.w = _; rw [upd_ne niw]; exact R3.hw, Paired.mapP R3.hr fun t x e => by rw [upd_ne (ne_of e hi3 (by intro z; cases z))]; exact e, R3.le, R3.so, ?_⟩
        show ((r.ins ++ [(nm, r.now)]).map (·.1)).Nodup
        rw [List.map_append]
        exact nd_snoc R3.nd e2
      · cases hv : valV (insV r.ins) (Sum.inr nm) with
        | none => rw [hv] at c; simp at c
        | some v =>
          walk_at "go"
          refine k _ { r with ins := without nm r.ins } rfl rfl (.inl rfl) ?_ (Nat.le_succ_of_le (List.length_filter_le _ _)) (Nat.le_succ _) (fun b u e n1 n2 n3 n4 => by rw [upd_ne n3]; exact k3 b u e n1)
          refine ⟨⟨dx3, by show upd H3 r.i _ r.p = _; rw [upd_ne npi.symm]; exact hp3⟩, by show upd H3 r.i _ r.i = _; rw [upd_same, insV_drop], by show upd H3 r.i _ r.w = _; rw [upd_ne niw]; exact R3.hw, Paired.mapP R3.hr fun t x e => by rw [upd_ne (ne_of e hi3 (by intro z; cases z))]; exact e, R3.le, R3.so, ?_⟩
          exact R3.nd.sublist (List.filter_sublist.map _)
    · have e0 : decide (V.int r2 = V.int 0) = false := by first | exact c | (rw [dec_v]; exact c)
      walk_at "go"
      rw [e0]
      with_reducible refine else_ rfl ?_
      walk_at "go"
      with_reducible refine by2 (fun c3 => ?_) (fun c3 => ?_)
      · walk_at "go"
        intro r3 c s r30 r31 c0 s0 s1
        have R3 := R2.drawn za2 nqw c s
        have k3 : ∀ b u, H b = some u → b ≠ q → upd H2 q (.lst [.int c, .int s]) b = some u := fun b u e n => by rw [upd_ne n]; exact k2 b u e n
        generalize upd H2 q (.lst [.int c, .int s]) = H3 at *
        have ro3 := R3.hp; have hi3 := R3.hi; have hw3 := R3.hw
        obtain ⟨dx3, hp3⟩ := id ro3
        have hl3 : (r.ts.map V.ref).length < 10000 := by rw [List.length_map, R3.hr.length]; omega
        walk_at "go"
        intro t ht
        walk_at "go"
        have kk : ∀ {b : Addr} {u : HO}, H3 b = some u → b ≠ r.w → upd (upd H3 t (.tup [.int r3, .int r.now])) r.w (.lst (r.ts.map V.ref ++ [.ref t])) b = some u := fun {b u} e n => by rw [upd_ne n, upd_ne (ne_of_none e ht)]; exact e
        refine k _ { r with ts := r.ts ++ [t], ws := r.ws ++ [(r3, r.now)] } rfl rfl (.inl rfl) ?_ (Nat.le_succ _) (by show (r.ws ++ _).length ≤ _; rw [List.length_append, List.length_singleton]; exact Nat.le_refl _) (fun b u e n1 n2 n3 n4 => kk (k3 b u e n1) n4)
        refine ⟨⟨dx3, kk hp3 npw.symm⟩, kk hi3 niw.symm, ?_, ?_, ?_, ?_, R3.nd⟩
        · show upd _ r.w _ r.w = _
          rw [upd_same]
          show _ = some (HO.lst ((r.ts ++ [t]).map V.ref))
          rw [List.map_append]; rfl
        · refine Paired.snoc (Paired.mapP R3.hr fun t x e => kk e (ne_of e hw3 (by intro z; cases z))) ?_
          show upd _ _ _ t = _
          rw [upd_ne (ne_of_none hw3 ht).symm, upd_same]
        · intro x hx
          rcases List.mem_append.mp hx with hx | hx
          · exact R3.le x hx
          · rw [List.mem_singleton.mp hx]; exact Int.le_refl _
        · show (r.ws ++ [(r3, r.now)]).Pairwise _
          rw [List.pairwise_append]
          exact ⟨R3.so, List.pairwise_singleton _ _, fun a ha b hb => by rw [List.mem_singleton.mp hb]; exact R3.le a ha⟩
      · have e1 := insV_vals r.ins
        have hr1 : Paired (Row H2) r.ts (wsV r.ws) := pair_map.mp R2.hr
        have hl1 : (insV r.ins).length < 1000 := by rw [insV_len]; omega
        have hl2 : (wsV r.ws).length < 10000 := by unfold wsV; rw [List.length_map]; omega
        walk_at "go"
        intro H' o w' ts' fo fw' now' kp ob ho hw' hr'
        rw [wsV_left] at hr'
        obtain ⟨nl, _⟩ := nxt_le r.now (r.ins.map (·.2))
        generalize nxt r.now (r.ins.map (·.2)) = m at *
        walk_at "go"
        refine k _ { r with now := m, w := w', ts := ts', ws := leftOf m r.ws } rfl rfl (.inr ?_) ?_ (Nat.le_succ _) (Nat.le_succ_of_le (List.length_filter_le _ _)) (fun b u e n1 n2 n3 n4 => kp b u (k2 b u e n1) n2)
        · show H w' = none
          cases e : H w' with
          | none => rfl
          | some u =>
            have := k2 _ _ e (ne_of_none fq fw').symm
            rw [fw'] at this; cases this
        · refine ⟨ob, kp _ _ hi2 npi, hw', (pair_map (F := Row H') (g := fun x : Int × Int => (V.int x.1, x.2))).mpr hr', fun x hx => ?_, R2.so.sublist List.filter_sublist, R2.nd⟩
          have := R2.le x (List.mem_filter.mp hx).1
          show x.2 ≤ m
          omega
theorem ok_emptied (T : Txt K mg A) : FnOk P w K mg base CX0 5 A.a_emptied A.d_emptied ["_law_rings"] (spEmptied A.c_Rounds) := by
  refine T.F_emptied.ok sc_emptied (fun vs H Q E h => ?_) (fun cdv A' outer s H vs Q E hr h => ?_)
  · obtain ⟨r, rfl, _⟩ := h
    rfl
  · obtain ⟨r, rfl, R, hil, hwl, k⟩ := h
    have hu := hu_of hr
    have ro := R.hp; have hi := R.hi; have hw := R.hw
    obtain ⟨dx, hp⟩ := id ro
    have f1 := no_twin r.now r.i r.w
    refine ⟨_, (pss_cons (ps_set (i := 1) sc_emptied.nd rfl (Or.inl rfl) (pe_meth0 (pv 0) T.cl_Rounds T.me_Rounds_twin (ok_Rounds_twin T) (hr.mono (by decide)) T.b_Rounds_twin .nil pass0))
      (pss_cons (ps_for PassesOwn.never rfl (pi_w (pi_keys (pe_seal (pe_meth0 (pv 1) T.cl_Rounds T.me_Rounds_inside (ok_Rounds_inside T) (hr.mono (by decide)) T.b_Rounds_inside .nil pass0)))) (pg_name (i := 2) sc_emptied.nd rfl (Or.inl rfl))
      (pss_one (ps_expr (pe_meth (pv 1) T.cl_Rounds T.me_Rounds_leave (ok_Rounds_leave T) (hr.mono (by decide)) T.b_Rounds_leave .nil pass0 (pa_cons (pv 2) pa_nil)))))
      (pss_cons (ps_set (i := 3) sc_emptied.nd rfl (Or.inl rfl) (pe_op op_cat (pe_meth0 (pv 1) T.cl_Rounds T.me_Rounds_sweep (ok_Rounds_sweep T) (hr.mono (by decide)) T.b_Rounds_sweep .nil pass0) (pe_meth0 (pv 1) T.cl_Rounds T.me_Rounds_sweep (ok_Rounds_sweep T) (hr.mono (by decide)) T.b_Rounds_sweep .nil pass0)))
      (pss_one (ps_ret (pe_and (pe_cmpR (op_eqD hr.units) (pv 3) (pe_lc (own := [("_law_thing", 4), ("_law_since", 5)]) rfl sc_emptied.nd (pi_w (pi_list (pe_meth0 (pv 0) T.cl_Rounds T.me_Rounds_waiting (ok_Rounds_waiting T) (hr.mono (by decide)) T.b_Rounds_waiting .nil pass0))) (blkOk_by (own := [("_law_thing", 4), ("_law_since", 5)]) (N := n_emptied) (sc := defScope s_emptied) (by decide +kernel)) (fun _ _ _ _ _ => viaG (pg_tup (n := 2) rfl (pgs_cons (pg_name (i := 4) sc_emptied.nd rfl (Or.inl rfl)) (pgs_cons (pg_name (i := 5) sc_emptied.nd rfl (Or.inl rfl)) pgs_nil))) (by first | rfl | (dsimp only [Cx.blk]; done) | (dsimp only [Cx.blk]; rfl))) (fun _ _ _ _ _ => viaT pts_nil (by first | rfl | (dsimp only [Cx.blk]; done) | (dsimp only [Cx.blk]; rfl))) (fun _ _ _ _ _ => viaE (pv 4) (by first | rfl | (dsimp only [Cx.blk]; done) | (dsimp only [Cx.blk]; rfl)))) (nomark _)) (pe_one (pe_cmpR (op_eqD hr.units) (pe_meth0 (pv 1) T.cl_Rounds T.me_Rounds_waiting (ok_Rounds_waiting T) (hr.mono (by decide)) T.b_Rounds_waiting .nil pass0) (pe_lst pa_nil) (nomark _))))))))), ?_⟩
    walk_at "go"
    intro H1 p' i' w' np ni nw s1 ro1 hi1 hw1
    obtain ⟨dx1, hp1⟩ := id ro1
    have f2 := no_inside r.now i' w'
    walk_at "go"
    intro D hD
    walk_at "go"
    intro od
    have s2 : Same H1 (upd (upd H1 D (.dK (insV r.ins))) D (.frz od (.dK (insV r.ins)))) := same_upd (same_new hD) hD
    have hfr : upd (upd H1 D (.dK (insV r.ins))) D (.frz od (.dK (insV r.ins))) D = some (.frz od (.dK (insV r.ins))) := upd_same
    generalize upd (upd H1 D (.dK (insV r.ins))) D (.frz od (.dK (insV r.ins))) = H2 at *
    walk_at "go"
    refine Or.inl ⟨_, hfr, Wrap.mk (for_it walk_keys (fun j σ H3 => Wrap (∃ v, σ = [some (.ref r.p), some (.ref p'), v, none, none, none] ∧ H3 i' = some (.dK (insV (r.ins.drop j))) ∧ ∀ b u, H2 b = some u → b ≠ i' → H3 b = some u))
      ⟨none, rfl, s2 _ _ hi1, fun b u e _ => e⟩ (fun j σ H3 _ q => ?_) ?_ ?_)⟩
    · obtain ⟨_, _, _, q⟩ := q
      exact q _ _ hfr (ne_of_none hi1 hD).symm
    · rintro j x σ H3 H4 hj ⟨v, rfl, hi3, k3⟩ ⟨rfl, ky, v2, hx, rfl⟩
      unfold insV at hx
      rw [List.getElem?_map] at hx
      cases he : r.ins[j]? with
      | none => rw [he] at hx; cases hx
      | some e =>
        rw [he] at hx
        cases hx
        obtain ⟨hjl, hje⟩ := List.getElem?_eq_some_iff.mp he
        have hdr : r.ins.drop j = e :: r.ins.drop (j + 1) := by rw [← hje, List.getElem_cons_drop]
        have nd2 : ((r.ins.drop j).map (·.1)).Nodup := R.nd.sublist ((List.drop_sublist _ _).map _)
        rw [hdr] at nd2
        have nd3 : e.1 ∉ (r.ins.drop (j + 1)).map (·.1) := (List.nodup_cons.mp nd2).1
        have hv : valV (insV (r.ins.drop j)) (Sum.inr e.1) = some (.int e.2) := by rw [hdr]; exact valV_pos rfl
        have hdk : dropK (insV (r.ins.drop j)) (Sum.inr e.1) = insV (r.ins.drop (j + 1)) := by
          rw [hdr]
          show dropK ((Sum.inr e.1, V.int e.2) :: insV (r.ins.drop (j + 1))) _ = _
          rw [dropK_pos rfl, dropK_no]
          exact fun m => nd3 (insV_mem.mp m)
        have ek : V.str e.1 = kV (Sum.inr e.1) := rfl
        have ek2 : kV (Sum.inr e.1) = V.str e.1 := rfl
        have hp3 := k3 p' _ (s2 _ _ hp1) (ne_of hp1 hi1 (by intro z; cases z))
        have ro3 : RObj A.c_Rounds H4 p' r.now i' w' := ⟨dx1, hp3⟩
        have f3 := no_leave r.now i' w'
        rw [ek2]
        walk_at "go"
        refine ⟨some (.str e.1), rfl, by rw [upd_same, hdk], fun b u e nb => by rw [upd_ne nb]; exact k3 b u e nb⟩
    · rintro σ H3 ⟨v, rfl, hi3, k3⟩
      rw [insV_len, List.drop_length] at hi3
      have hi3 : H3 i' = some (.dK []) := hi3
      have niw : w' ≠ i' := ne_of hw1 hi1 (by intro z; cases z)
      have npi : p' ≠ i' := ne_of hp1 hi1 (by intro z; cases z)
      have hp3 := k3 p' _ (s2 _ _ hp1) npi
      have ro3 : RObj A.c_Rounds H3 p' r.now i' w' := ⟨dx1, hp3⟩
      have hw3 := k3 w' _ (s2 _ _ hw1) niw
      have s3 : Same H H3 := fun b u e => k3 b u (s2 _ _ (s1 _ _ e)) (ne_of_none e ni)
      have hr3 : Paired (Row H3) r.ts (wsV r.ws) := pair_map.mp (Paired.mapP R.hr fun t x e => s3 _ _ e)
      have hl2 : (wsV r.ws).length < 10000 := by unfold wsV; rw [List.length_map]; omega
      have ev : ([] : List (Key × V)).map (·.2) = ([] : List Int).map V.int := rfl
      have f4 := no_sweep r.now i' w'
      have hl0 : ([] : List (Key × V)).length < 1000 := by decide
      walk_at "go"
      intro H4 o1 wa tsa fo1 fwa nowa kp1 ro4 ho1 hwa hra
      rw [wsV_old] at ho1
      rw [wsV_left] at hra
      have n1 : ∀ m : Int, nxt m [] = m + 1 := fun m => rfl
      rw [n1] at ro4 ho1 hra
      obtain ⟨dx4, hp4⟩ := id ro4
      have hi4 := kp1 _ _ hi3 npi.symm
      have hl3 : (wsV (leftOf (r.now + 1) r.ws)).length < 10000 := by unfold wsV; rw [List.length_map]; exact Nat.lt_of_le_of_lt (List.length_filter_le _ _) (by omega)
      have f5 := no_sweep (r.now + 1) i' wa
      walk_at "go"
      intro H5 o2 wb tsb fo2 fwb nowb kp2 ro5 ho2 hwb hrb
      rw [wsV_old] at ho2
      rw [wsV_left] at hrb
      rw [n1] at ro5 ho2 hrb
      obtain ⟨eb1, eb2⟩ := both_old R.so R.le
      rw [eb2] at hrb
      have htb : tsb = [] := by cases tsb with | nil => rfl | cons _ _ => exact (nomatch hrb)
      rw [htb] at hwb
      have ho1' := kp2 _ _ ho1 (by intro z; rw [z, hp3] at fo1; cases fo1)
      have s5 : Same H H5 := fun b u e => kp2 _ _ (kp1 _ _ (s3 _ _ e) (ne_of_none e np)) (ne_of_none e np)
      obtain ⟨dx5, hp5⟩ := id ro5
      have hlen1 : ∀ m, (oldOf m r.ws).length < 900 := fun m => Nat.lt_of_le_of_lt (List.length_filter_le _ _) hwl
      have hlen2 : ∀ m m', (oldOf m (leftOf m' r.ws)).length < 900 := fun m m' => Nat.lt_of_le_of_lt (Nat.le_trans (List.length_filter_le _ _) (List.length_filter_le _ _)) hwl
      have hlen : (((oldOf (r.now + 1) r.ws).map (·.1)).map V.int).length + (((oldOf (r.now + 1 + 1) (leftOf (r.now + 1) r.ws)).map (·.1)).map V.int).length ≤ sizeLine := by
        simp only [List.length_map]
        have h1 := hlen1 (r.now + 1); have h2 := hlen2 (r.now + 1 + 1) (r.now + 1)
        refine Nat.le_trans ?_ (by decide : 2000 ≤ sizeLine)
        omega
      walk_at "go"
      intro F hF
      have ef : ((oldOf (r.now + 1) r.ws).map (·.1)).map V.int ++ ((oldOf (r.now + 1 + 1) (leftOf (r.now + 1) r.ws)).map (·.1)).map V.int = (r.ws.map (·.1)).map V.int := by
        rw [← List.map_append, ← List.map_append, eb1]
      rw [ef]
      have s6 : Same H5 (upd H5 F (.lst ((r.ws.map (·.1)).map V.int))) := same_new hF
      have hF6 : upd H5 F (.lst ((r.ws.map (·.1)).map V.int)) F = some (.lst ((r.ws.map (·.1)).map V.int)) := upd_same
      have s06 := s5.trans s6
      have hp6 := s06 _ _ hp
      have ro6 : RObj A.c_Rounds (upd H5 F (.lst ((r.ws.map (·.1)).map V.int))) r.p r.now r.i r.w := ⟨dx, hp6⟩
      have hw6 := s06 _ _ hw
      have hpp6 := s6 _ _ hp5
      have hwb6 := s6 _ _ hwb
      have f6 := no_waiting r.now r.i r.w
      generalize upd H5 F (.lst ((r.ws.map (·.1)).map V.int)) = H6 at *
      walk_at "go"
      intro l hl
      have s7 : Same H6 (upd H6 l (.lst (r.ts.map V.ref))) := same_new hl
      have hl7 : upd H6 l (.lst (r.ts.map V.ref)) l = some (.lst (r.ts.map V.ref)) := upd_same
      generalize upd H6 l (.lst (r.ts.map V.ref)) = H7 at *
      walk_at "go"
      refine Wrap.mk fun G hG => ?_
      have hr7 : Paired (fun t (x : Int × Int) => H7 t = some (.tup [.int x.1, .int x.2])) r.ts r.ws := Paired.mapP R.hr fun t x e => s7 _ _ (s06 _ _ e)
      refine lc_it walk_list (CP H7 G fun j => ((r.ws.take j).map (·.1)).map V.int) (.start hG rfl) (fun j H2 _ c => SqL.of (c.sm _ _ hl7)) ?_ ?_
      · rintro j x H8 H9 hj c ⟨rfl, hx⟩
        rw [List.getElem?_map] at hx
        cases ht : r.ts[j]? with
        | none => rw [ht] at hx; cases hx
        | some t =>
          rw [ht] at hx
          obtain rfl : V.ref t = x := Option.some.inj hx
          obtain ⟨y, hy, hrow⟩ := Paired.at hr7 ht
          have hrow2 := c.sm _ _ hrow
          have hG9 := c.at_
          have hlen : (((r.ws.take j).map (·.1)).map V.int).length < sizeLine := by
            rw [List.length_map, List.length_map, List.length_take]
            exact small1000 (Nat.le_trans (Nat.min_le_right _ _) (by omega))
          walk_at "go"
          exact c.push (Same.refl _) (by show List.map _ (List.map _ (r.ws.take (j + 1))) = _; rw [take_snoc hy, List.map_append, List.map_append]; rfl)
      · intro H8 c
        have hlen : (r.ts.map V.ref).length = r.ws.length := by rw [List.length_map]; exact R.hr.length
        have hG8 := c.at_
        rw [hlen] at hG8
        rw [List.take_length] at hG8
        have hF8 := c.sm _ _ (s7 _ _ hF6)
        have d1 : Dp K H8 (.ref F) (.list ((r.ws.map (·.1)).map PyData.int)) := .lst (SqL.of hF8) (dp_ints _)
        have d2 : Dp K H8 (.ref G) (.list ((r.ws.map (·.1)).map PyData.int)) := .lst (SqL.of hG8) (dp_ints _)
        refine ⟨_, _, d1, d2, shaped_ints _, shaped_ints _, ?_⟩
        rw [SeqAt.eqv_refl _ (can_ints _)]
        have hp8 := c.sm _ _ (s7 _ _ hpp6)
        have hwb8 := c.sm _ _ (s7 _ _ hwb6)
        have ro8 : RObj A.c_Rounds H8 p' (r.now + 1 + 1) i' wb := ⟨dx5, hp8⟩
        have f8 := no_waiting (r.now + 1 + 1) i' wb
        have s8 : Same H H8 := (s06.trans s7).trans c.sm
        walk_at "go"
        intro z1 hz1
        walk_at "go"
        intro z2 hz2
        obtain ⟨n12, hz20⟩ := un_upd hz2
        have d3 : Dp K (upd (upd H8 z1 (.lst (([] : List Addr).map V.ref))) z2 (.lst [])) (.ref z1) (.list []) := .lst (xs := []) (SqL.of (by rw [upd_ne n12.symm]; exact upd_same)) .nil
        have d4 : Dp K (upd (upd H8 z1 (.lst (([] : List Addr).map V.ref))) z2 (.lst [])) (.ref z2) (.list []) := .lst (xs := []) (SqL.of upd_same) .nil
        refine ⟨_, _, d3, d4, rfl, rfl, ?_⟩
        exact k _ (same_upd (same_upd s8 (s8.free hz1)) (s8.free hz20))
theorem ok_law (T : Txt K mg A) : FnOk P w K mg base CX0 6 A.a_law A.d_law ["_law_script"] (spLaw K) := by
  refine T.F_law.ok sc_law (fun vs H Q E h => ?_) (fun cdv A' outer s H vs Q E hr h => ?_)
  · obtain ⟨a, ns, rfl, _⟩ := h
    rfl
  · obtain ⟨a, ns, rfl, hS, hns, k⟩ := h
    have hu := hu_of hr
    refine ⟨_, (pss_cons (ps_set (i := 1) sc_law.nd rfl (Or.inl rfl) (pe_lst (pa_cons (pe_make0 T.mk_Rounds (ok_Rounds_init T) (hr.mono (by decide)) rfl T.mg_Rounds T.b_Rounds_init .nil pass0) pa_nil)))
      (pss_cons (ps_for PassesOwn.never rfl (pi_w (pi_range1 rfl T.n_range (pa_cons (pe_callB (call_max2 rfl) (by rfl) T.n_max (by decide +kernel) (pa_cons pe_int (pa_cons (pe_callB (call_min2 rfl) (by rfl) T.n_min (by decide +kernel) (pa_cons (pe_callB call_len_seq (by rfl) T.n_len PySem.boot_len (pa_cons (pv 0) pa_nil)) (pa_cons pe_int pa_nil))) pa_nil))) pa_nil))) (pg_name (i := 2) sc_law.nd rfl (Or.inl rfl))
      (pss_cons (ps_set (i := 3) sc_law.nd rfl (Or.inl rfl) (pe_call (ok_pool T) (hr.mono (by decide)) rfl T.m_pool T.F_pool.kp T.b_pool .nil pass0 (pa_cons (pv 0) (pa_cons (pv 2) pa_nil))))
      (pss_cons (ps_set (i := 4) sc_law.nd rfl (Or.inl rfl) (pe_call (ok_take T) (hr.mono (by decide)) rfl T.m_take T.F_take.kp T.b_take .nil pass0 (pa_cons (pv 3) (pa_cons (pe_callB call_len_seq (by rfl) T.n_len PySem.boot_len (pa_cons (pv 1) pa_nil)) pa_nil))))
      (cutAt (ps_if (PW.pt (pw_and (pt_cmpR op_lt (pe_callB call_len_seq (by rfl) T.n_len PySem.boot_len (pa_cons (pv 1) pa_nil)) pe_int (nomark _)) (pw_and1 (pt_cmpR op_eq (pe_call (ok_take T) (hr.mono (by decide)) rfl T.m_take T.F_take.kp T.b_take .nil pass0 (pa_cons (pv 3) (pa_cons pe_int pa_nil))) pe_int (nomark _)))))
      (pss_cons (ps_expr (pe_bm PySem.F.plainAttrs_list PySem.F.slot_list_append PySem.F.type_list_append mt_append (pv 1) (pa_cons (pe_meth0 (pe_ix ix_list (pv 1) (pv 4) (fun _ _ => rfl)) T.cl_Rounds T.me_Rounds_twin (ok_Rounds_twin T) (hr.mono (by decide)) T.b_Rounds_twin .nil pass0) pa_nil)))
      (pss_one (ps_if (pt_cmpR (op_neW hr.units) (pe_call (ok_look T) (hr.mono (by decide)) rfl T.m_look T.F_look.kp T.b_look .nil pass0 (pa_cons (pe_ix ix_list (pv 1) (pe_un un_neg pe_int) (fun _ _ => rfl)) pa_nil)) (pe_call (ok_look T) (hr.mono (by decide)) rfl T.m_look T.F_look.kp T.b_look .nil pass0 (pa_cons (pe_ix ix_list (pv 1) (pv 4) (fun _ _ => rfl)) pa_nil)) (nomark _))
      (pss_one (ps_ret pe_bl))
      pss_nil)))
      pss_nil)
      (pss_cons (ps_setLc (i := 6) (own := [("_law_rings", 5)]) rfl sc_law.nd rfl rfl (sw_true rfl rfl rfl (by decide +kernel)) (pi_w (pi_list (pv 1))) (blkOk_by (own := [("_law_rings", 5)]) (N := n_law) (sc := defScope s_law) (by decide +kernel)) (fun _ _ _ _ _ => viaG (pg_name (i := 5) sc_law.nd rfl (Or.inl rfl)) (by first | rfl | (dsimp only [Cx.blk]; done) | (dsimp only [Cx.blk]; rfl))) (fun _ _ _ _ _ => viaT pts_nil (by first | rfl | (dsimp only [Cx.blk]; done) | (dsimp only [Cx.blk]; rfl))) (fun _ _ _ _ _ => viaE (pe_call (ok_look T) (hr.mono (by decide)) rfl T.m_look T.F_look.kp T.b_look .nil pass0 (pa_cons (pv 5) pa_nil)) (by first | rfl | (dsimp only [Cx.blk]; done) | (dsimp only [Cx.blk]; rfl))))
      (pss_cons (ps_expr (pe_call (ok_deed T) (hr.mono (by decide)) rfl T.m_deed T.F_deed.kp T.b_deed .nil pass0 (pa_cons (pv 3) (pa_cons (pe_ix ix_list (pv 1) (pv 4) (fun _ _ => rfl)) pa_nil))))
      (pss_one (ps_for PassesOwn.never rfl (pi_w (pi_enum (by rfl) T.n_enumerate (pa_cons (pv 1) pa_nil))) (pg_tup (n := 2) rfl (pgs_cons (pg_name (i := 7) sc_law.nd rfl (Or.inl rfl)) (pgs_cons (pg_name (i := 5) sc_law.nd rfl (Or.inl rfl)) pgs_nil)))
      (pss_one (ps_if (PW.pt (pw_or (PW.pt (pw_and (pt_cmpR op_ne (pv 7) (pv 4) (nomark _)) (pw_and1 (pt_cmpR (op_neW hr.units) (pe_call (ok_look T) (hr.mono (by decide)) rfl T.m_look T.F_look.kp T.b_look .nil pass0 (pa_cons (pv 5) pa_nil)) (pe_ix ix_list (pv 6) (pv 7) (fun _ _ => rfl)) (nomark _))))) (pw_or1 (pt_not (pt_val (pe_call (ok_emptied T) (hr.mono (by decide)) rfl T.m_emptied T.F_emptied.kp T.b_emptied .nil pass0 (pa_cons (pv 5) pa_nil)))))))
      (pss_one (ps_ret pe_bl))
      pss_nil))))))))))
      (pss_one (ps_ret pe_bl)))), ?_⟩
    walk_at "go"
    intro x dx nx ndx nex
    have hx0 : (upd (upd H dx (.own x)) x (.ins A.c_Rounds dx [])) x = some (.ins A.c_Rounds dx []) := upd_same
    walk_at "go"
    intro H1 i w fi fw niw ob hi hw kp
    have s1 : Same H H1 := fun b u e => kp b u (by rw [upd_ne (ne_of_none e nx), upd_ne (ne_of_none e ndx)]; exact e) (ne_of_none e nx)
    have fi0 : H i = none := (un_upd (un_upd fi).2).2
    have fw0 : H w = none := (un_upd (un_upd fw).2).2
    walk_at "go"
    intro S fS
    have L0 : ALL A.c_Rounds H (upd H1 S (.lst [.ref x])) S [⟨x, i, w, 0, [], [], []⟩] 0 := by
      have s2 : Same H1 (upd H1 S (.lst [.ref x])) := same_new fS
      have R : RAt A.c_Rounds H1 ⟨x, i, w, 0, [], [], []⟩ := ⟨ob, hi, hw, .nil, fun x hx => (by simp at hx), List.Pairwise.nil, List.nodup_nil⟩
      refine ⟨s1.trans s2, s1.free fS, upd_same, fun r hr => ?_, fun r hr => ?_, fun i j a b n ha hb => ?_, by show 1 ≤ 4; decide, by show 0 < 1; decide⟩
      · rw [List.mem_singleton.mp hr]; exact R.same s2
      · rw [List.mem_singleton.mp hr]; exact ⟨nx, fi0, fw0, ne_of_none hw fS, Nat.le_refl _, Nat.le_refl _⟩
      · rw [List.getElem?_singleton] at ha hb
        split at ha <;> split at hb
        · omega
        · cases hb
        · cases ha
        · cases ha
    generalize upd H1 S (.lst [.ref x]) = H2 at *
    have hS2 := L0.s0.seq hS
    walk_at "go"
    refine Wrap.mk (for_it walk_upto (OUT A.c_Rounds a H) ⟨S, _, none, none, none, none, none, none, rfl, L0⟩ (fun _ _ _ _ _ => trivial) ?_ ?_)
    · clear L0
      rintro kk y σ H3 H4 hkk ⟨S, rs, v2, v3, v4, v5, v6, v7, rfl, L⟩ ⟨rfl, rfl⟩
      have hk : kk ≤ 30 := by omega
      have hS4 := L.s0.seq hS
      walk_at "go"
      intro q c s fq c0 s0 s1
      have L1 := L.same (same_new (o := .lst [.int c, .int s]) fq)
      have Z1 : PQ H (upd H4 q (.lst [.int c, .int s])) q S rs := ⟨L.s0.free fq, pool_drawn c0 s0 s1, (ne_of_none L.hS fq).symm, fun r hr => (ne_of_none (L.ra r hr).hw fq).symm⟩
      generalize upd H4 q (.lst [.int c, .int s]) = H5 at *
      clear L
      have hS5 := L1.hS; have za := Z1.at_
      have hps := L1.ps; have hln := L1.ln
      have hle : (rs.map fun r => V.ref r.p).length = rs.length := List.length_map ..
      have hp1 : 0 < (((rs.map fun r => V.ref r.p).length : Nat) : Int) := by omega
      have hp2 : (((rs.map fun r => V.ref r.p).length : Nat) : Int) < 1073741824 := by omega
      walk_at "go"
      intro r1 c s r10 r11 c0 s0 s1
      have L2 := L1.drawn Z1 c s
      have Z2 := Z1.drawn (c := c) (s := s) c0 s0 s1
      generalize upd H5 q (.lst [.int c, .int s]) = H6 at *
      clear L1 Z1 za hS5
      obtain ⟨j, rfl⟩ : ∃ j : Nat, r1 = (j : Int) := ⟨r1.toNat, by omega⟩
      have hjl : j < rs.length := by omega
      obtain ⟨r, hj⟩ : ∃ r, rs[j]? = some r := ⟨_, List.getElem?_eq_getElem hjl⟩
      have hai : atI (rs.map fun r => V.ref r.p) ((j : Nat) : Int) = some (V.ref r.p) := atI_nat (by rw [List.getElem?_map, hj]; rfl)
      have hS6 := L2.hS; have za := Z2.at_
      have R := L2.ra r (List.mem_of_getElem? hj)
      obtain ⟨f1, f2, f3, f4, f5, f6⟩ := L2.fr r (List.mem_of_getElem? hj)
      dsimp only [gName]
      refine ⟨fun σ H7 => Wrap (∃ (rs : List RS) (r : RS), σ = [some (.ref a), some (.ref S), some (.int (kk : Nat)), some (.ref q), some (.int (j : Nat)), v5, v6, v7] ∧ ALL A.c_Rounds H H7 S rs kk ∧ PQ H H7 q S rs ∧ rs[j]? = some r), ?_, ?_⟩
      · walk_at "go"
        with_reducible refine by2 (fun c => ?_) (fun c => ?_)
        · have hl4 : rs.length < 4 := by have c := of_decide_eq_true c; omega
          walk_at "go"
          intro r3 c s r30 r31 c0 s0 s1
          have L3 := L2.drawn Z2 c s
          have Z3 := Z2.drawn (c := c) (s := s) c0 s0 s1
          generalize upd H6 q (.lst [.int c, .int s]) = H7 at *
          have hS7 := L3.hS
          have R := L3.ra r (List.mem_of_getElem? hj)
          have ro := R.hp; have hi7 := R.hi; have hw7 := R.hw
          obtain ⟨dx7, hp7⟩ := id ro
          have g1 := no_twin r.now r.i r.w
          walk_at "go"
          with_reducible refine by2 (fun c => ?_) (fun c => ?_)
          · walk_at "go"
            intro H8 p' i' w' np ni nw s8 ro8 hi8 hw8
            have hS8 := s8 _ _ hS7
            have hlz : (rs.map fun r => V.ref r.p).length < sizeLine := small1000 (by omega)
            have R8 : RAt A.c_Rounds H8 ⟨p', i', w', r.now, r.ins, r.ts, r.ws⟩ := ⟨ro8, hi8, hw8, Paired.mapP R.hr fun t x e => s8 _ _ e, R.le, R.so, R.nd⟩
            have hrm := List.mem_of_getElem? hj
            have L9 := L3.more s8 R8 np ni nw hl4 f5 f6
            have Z9 : PQ H (upd H8 S (.lst ((rs.map fun r => V.ref r.p) ++ [.ref p']))) q S (rs ++ [⟨p', i', w', r.now, r.ins, r.ts, r.ws⟩]) := Z3.more s8 hS8 nw
            have hal := atI_last (rs.map fun r => V.ref r.p) (V.ref p')
            have Rn := L9.ra _ (List.mem_append_right _ (List.mem_singleton.mpr rfl))
            have Ro := L9.ra r (List.mem_append_left _ hrm)
            have ro9 : RObj A.c_Rounds (upd H8 S (.lst ((rs.map fun r => V.ref r.p) ++ [.ref p']))) p' r.now i' w' := Rn.hp
            have hi9 : (upd H8 S (.lst ((rs.map fun r => V.ref r.p) ++ [.ref p']))) i' = some (.dK (insV r.ins)) := Rn.hi
            have hw9 : (upd H8 S (.lst ((rs.map fun r => V.ref r.p) ++ [.ref p']))) w' = some (.lst (r.ts.map V.ref)) := Rn.hw
            have hS9 : (upd H8 S (.lst ((rs.map fun r => V.ref r.p) ++ [.ref p']))) S = some (.lst ((rs.map fun r => V.ref r.p) ++ [.ref p'])) := upd_same
            have haj : atI ((rs.map fun r => V.ref r.p) ++ [V.ref p']) ((j : Nat) : Int) = some (V.ref r.p) := atI_nat (by rw [List.getElem?_append_left (by rw [List.length_map]; exact hjl), List.getElem?_map, hj]; rfl)
            walk_at "go"
            generalize upd H8 S (.lst ((rs.map fun r => V.ref r.p) ++ [.ref p'])) = H9 at *
            intro H10 t1 d1 l1 ft1 fd1 fl1 s10 et1 ed1 el1
            have hS10 := s10 _ _ hS9
            have Ro10 := Ro.same s10
            have ro10 := Ro10.hp; have hi10 := Ro10.hi; have hw10 := Ro10.hw
            walk_at "go"
            intro H11 t2 d2 l2 ft2 fd2 fl2 s11 et2 ed2 el2
            refine ⟨2, by decide, eq_look (insV_nd R.nd) (insV_flat _) (s11 _ _ et1) (s11 _ _ ed1) (s11 _ _ el1) et2 ed2 el2, ?_⟩
            walk_at "go"
            walk_at "x_else"
            exact ⟨rs ++ [⟨p', i', w', r.now, r.ins, r.ts, r.ws⟩], r, rfl, (L9.same s10).same s11, (Z9.same s10).same s11, by rw [List.getElem?_append_left hjl]; exact hj⟩
          · walk_at "go"
            exact ⟨rs, r, rfl, L3, Z3, hj⟩
        · walk_at "go"
          exact ⟨rs, r, rfl, L2, Z2, hj⟩
      · clear hai R hj r f1 f2 f3 f4 f5 f6 L2 Z2 za hS6 hps hln hle hp1 hp2 hjl r10 r11
        rintro σ H7 ⟨rs, r, rfl, L, Z, hj⟩
        have hS7 := L.hS
        have hrm := List.mem_of_getElem? hj
        have hln := L.ln
        walk_at "go"
        refine Wrap.mk fun B hB => ?_
        have nBS : S ≠ B := ne_of_none hS7 hB
        refine lc_it (walk_list (xs := rs.map fun r => V.ref r.p)) (fun n H8 => Wrap (Same H7 H8 ∧ ∃ bs : List Addr, H8 B = some (.lst (bs.map V.ref)) ∧ Paired (Bef H7 B H8) bs (rs.take n))) ⟨same_new hB, [], upd_same, .nil⟩ (fun n H8 _ c => SqL.of (c.ex.1 _ _ hS7)) ?_ ?_
        · rintro n x H8 H9 hn ⟨s8, bs, hB8, hb8⟩ ⟨rfl, hx⟩
          rw [List.getElem?_map] at hx
          cases hrn : rs[n]? with
          | none => rw [hrn] at hx; cases hx
          | some e =>
            rw [hrn] at hx
            obtain rfl : V.ref e.p = x := Option.some.inj hx
            have Re := (L.ra e (List.mem_of_getElem? hrn)).same s8
            have ro8 := Re.hp; have hi8 := Re.hi; have hw8 := Re.hw
            have hbl : (bs.map V.ref).length < sizeLine := by
              rw [List.length_map, hb8.length, List.length_take]
              exact small1000 (Nat.le_trans (Nat.min_le_right _ _) (by omega))
            walk_at "go"
            intro H10 t d l ft fd fl s10 et ed el
            have hB10 := s10 _ _ hB8
            walk_at "go"
            refine ⟨same_upd (s8.trans s10) hB, bs ++ [t], by rw [upd_same, List.map_append]; rfl, ?_⟩
            rw [take_snoc hrn]
            refine Paired.snoc (Paired.mapP hb8 fun t x b => (b.same s10).put hB10) (Bef.put ⟨d, l, s8.free ft, s8.free fd, s8.free fl, (ne_of_none hB8 fl).symm, et, ed, el⟩ hB10)
        · rintro H8 ⟨s8, bs, hB8, hb8⟩
          rw [List.length_map, List.take_length] at hb8
          have hS8 := s8 _ _ hS7
          have L8 := L.same s8
          have Z8 := Z.same s8
          have za8 := Z8.at_
          have R8 := L8.ra r hrm
          obtain ⟨f1, f2, f3, f4, f5, f6⟩ := L8.fr r hrm
          have hb1 : r.ins.length < 900 := by omega
          have hb2 : r.ws.length < 900 := by omega
          have nqw := Z8.nw r hrm
          have hai : atI (rs.map fun r => V.ref r.p) ((j : Nat) : Int) = some (V.ref r.p) := atI_nat (by rw [List.getElem?_map, hj]; rfl)
          walk_at "go"
          intro H9 r' e1 e2 e3 R9 b1 b2 kp
          have L9 := L8.done hj Z8 e1 e2 e3 R9 b1 b2 kp
          have kf : ∀ {b : Addr} {u : HO}, H8 b = some u → H7 b = none → H9 b = some u := fun {b u} e f => by
            obtain ⟨c, s, eq, _⟩ := Z.at_
            have R7 := L.ra r hrm
            obtain ⟨dx7, hp7⟩ := R7.hp
            exact kp b u e (ne_of_none eq f).symm (ne_of_none hp7 f).symm (ne_of_none R7.hi f).symm (ne_of_none R7.hw f).symm
          have hB9 := kf hB8 hB
          have hb9 : Paired (Bef H7 B H9) bs rs := Paired.mapP hb8 fun t x b => by
            obtain ⟨d, l, a, b, c, n, e1, e2, e3⟩ := b
            exact ⟨d, l, a, b, c, n, kf e1 a, kf e2 b, kf e3 c⟩
          have hS9 := L9.hS
          have hL9 : (rs.set j r').length ≤ 4 := L9.ln
          walk_at "go"
          refine Wrap.mk (for_it (walk_enum (xs := (rs.set j r').map fun r => V.ref r.p)) (fun n σ H10 => Wrap (∃ v5 v7, σ = [some (.ref a), some (.ref S), some (.int (kk : Nat)), some (.ref q), some (.int (j : Nat)), v5, some (.ref B), v7] ∧ Same H9 H10))
            ⟨v5, v7, rfl, Same.refl _⟩ (fun n σ H10 _ c => ?_) ?_ ?_)
          · obtain ⟨_, _, _, s⟩ := c
            exact SqL.of (s _ _ hS9)
          · rintro n y σ H10 H11 hn ⟨v5, v7, rfl, s10⟩ ⟨Tp, x1, x2, rfl, hT, rfl, hx1, hx2⟩
            obtain rfl : V.int (n : Nat) = x1 := Option.some.inj hx1
            have hx2 : ((rs.set j r').map fun r => V.ref r.p)[n]? = some x2 := hx2
            rw [List.getElem?_map] at hx2
            cases hrn : (rs.set j r')[n]? with
            | none => rw [hrn] at hx2; cases hx2
            | some e =>
              rw [hrn] at hx2
              obtain rfl : V.ref e.p = x2 := Option.some.inj hx2
              have s11 := s10.trans (same_new (o := .tup [.int (n : Nat), .ref e.p]) hT)
              have Re := (L9.ra e (List.mem_of_getElem? hrn)).same s11
              obtain ⟨g1, g2, g3, g4, g5, g6⟩ := L9.fr e (List.mem_of_getElem? hrn)
              have hT11 : upd H10 Tp (.tup [.int (n : Nat), .ref e.p]) Tp = some (.tup [.int (n : Nat), .ref e.p]) := upd_same
              generalize upd H10 Tp (.tup [.int (n : Nat), .ref e.p]) = H11 at *
              have c1 : e.ins.length < 900 := by omega
              have c2 : e.ws.length < 900 := by omega
              have ro11 := Re.hp; have hi11 := Re.hi; have hw11 := Re.hw
              walk_at "go"
              by_cases hnj : n = j
              · have e0 : (!decide (V.int (n : Nat) = V.int (j : Nat))) = false := by rw [hnj]; simp
                rw [e0]
                with_reducible refine else_ rfl ?_
                walk_at "go"
                intro H12 s12
                walk_at "go"
                walk_at "x_else"
                exact ⟨_, _, rfl, s11.trans s12⟩
              · have e0 : (!decide (V.int (n : Nat) = V.int (j : Nat))) = true := by rw [dec_v]; simp; omega
                rw [e0]
                with_reducible refine then_ rfl ?_
                have hrn0 : rs[n]? = some e := by
                  rw [List.getElem?_set, if_neg (fun z => hnj z.symm)] at hrn; exact hrn
                obtain ⟨tb, htb⟩ : ∃ tb, bs[n]? = some tb := ⟨_, List.getElem?_eq_getElem (by rw [hb9.length]; exact (List.getElem?_eq_some_iff.mp hrn0).1)⟩
                obtain ⟨e', he', db, lb, _, _, _, _, b1, b2, b3⟩ := Paired.at hb9 htb
                obtain rfl : e = e' := Option.some.inj (hrn0.symm.trans he')
                have hab : atI (bs.map V.ref) ((n : Nat) : Int) = some (V.ref tb) := atI_nat (by rw [List.getElem?_map, htb]; rfl)
                walk_at "go"
                intro H12 t d l ft fd fl s12 et ed el
                have s912 := s11.trans s12
                have hB12 := s912 _ _ hB9
                have h60 : (2 : Nat) ≤ 60 := by decide
                have hEq : EqT K H12 (EqW K H12 2) (.ref t) (.ref tb) := eq_look (insV_nd Re.nd) (insV_flat _) et ed el (s912 _ _ b1) (s912 _ _ b2) (s912 _ _ b3)
                have Re12 := Re.same s12
                walk_at "go"
                intro H13 s13
                walk_at "go"
                walk_at "x_else"
                exact ⟨_, _, rfl, s912.trans s13⟩
          · rintro σ H10 ⟨v5, v7, rfl, s10⟩
            exact ⟨S, _, _, _, _, _, _, _, rfl, L9.same s10⟩
    · rintro σ H3 ⟨S, rs, v2, v3, v4, v5, v6, v7, rfl, L⟩
      walk_at "go"
      exact k _

end
theorem all_mk {l : PySem.W.OpenLaw} {w : World} {K : PySem.W.Frag} {h : Heap} {mg : Str → Option Value} {fa : Addr} (X : K.In h) (G : h.Ns mainGlobals mg) (hfa : mg "law" = some (.ref fa))
    {a_Rounds_init a_Rounds_enter a_Rounds_leave a_Rounds_wait a_Rounds_sweep a_Rounds_now a_Rounds_inside a_Rounds_waiting a_Rounds_twin a_pool a_take a_look a_deed a_emptied a_law c_Rounds : Addr} {od0 an0 od1 an1 od2 an2 od3 an3 od4 an4 od5 an5 od6 an6 od7 an7 od8 an8 od9 an9 od10 an10 od11 an11 od12 an12 od13 an13 od14 an14 : Option Addr} {sl0 sl1 sl2 sl3 sl4 sl5 sl6 sl7 sl8 sl9 sl10 sl11 sl12 sl13 sl14 : Array (Option Value)} {oc0 kV0 dc0 pm0 cd0 ct0 oc1 kV1 dc1 pm1 cd1 ct1 oc2 kV2 dc2 pm2 cd2 ct2 oc3 kV3 dc3 pm3 cd3 ct3 oc4 kV4 dc4 pm4 cd4 ct4 oc5 kV5 dc5 pm5 cd5 ct5 oc6 kV6 dc6 pm6 cd6 ct6 oc7 kV7 dc7 pm7 cd7 ct7 oc8 kV8 dc8 pm8 cd8 ct8 oc9 kV9 dc9 pm9 cd9 ct9 oc10 kV10 dc10 pm10 cd10 ct10 oc11 kV11 dc11 pm11 cd11 ct11 oc12 kV12 dc12 pm12 cd12 ct12 oc13 kV13 dc13 pm13 cd13 ct13 oc14 kV14 dc14 pm14 cd14 ct14 : Value} {tk_BEHIND : Tok}
    (aC0 : PySem.W.nsIn K mainGlobals "Rounds" = some (some (.ref c_Rounds)))
    (a0 : PySem.W.findIn K (.ref c_Rounds) "__init__" = some (some (.ref a_Rounds_init)))
    (i0 : PySem.W.isFn K (.ref a_Rounds_init) = true)
    (l0 : K.lookup a_Rounds_init = some ⟨oc0, od0, .func (PySem.W.fnOf "__init__" "Rounds.__init__" (defArgs s_Rounds_init) (defBody s_Rounds_init) (defScope s_Rounds_init) .none kV0 dc0 pm0 an0 cd0 ct0), sl0⟩)
    (c0 : PySem.W.codeIn K cd0 "Rounds.__init__" = true)
    (k0 : PySem.W.keepIn K (.ref a_Rounds_init) = true)
    (a1 : PySem.W.findIn K (.ref c_Rounds) "enter" = some (some (.ref a_Rounds_enter)))
    (i1 : PySem.W.isFn K (.ref a_Rounds_enter) = true)
    (l1 : K.lookup a_Rounds_enter = some ⟨oc1, od1, .func (PySem.W.fnOf "enter" "Rounds.enter" (defArgs s_Rounds_enter) (defBody s_Rounds_enter) (defScope s_Rounds_enter) .none kV1 dc1 pm1 an1 cd1 ct1), sl1⟩)
    (c1 : PySem.W.codeIn K cd1 "Rounds.enter" = true)
    (k1 : PySem.W.keepIn K (.ref a_Rounds_enter) = true)
    (a2 : PySem.W.findIn K (.ref c_Rounds) "leave" = some (some (.ref a_Rounds_leave)))
    (i2 : PySem.W.isFn K (.ref a_Rounds_leave) = true)
    (l2 : K.lookup a_Rounds_leave = some ⟨oc2, od2, .func (PySem.W.fnOf "leave" "Rounds.leave" (defArgs s_Rounds_leave) (defBody s_Rounds_leave) (defScope s_Rounds_leave) .none kV2 dc2 pm2 an2 cd2 ct2), sl2⟩)
    (c2 : PySem.W.codeIn K cd2 "Rounds.leave" = true)
    (k2 : PySem.W.keepIn K (.ref a_Rounds_leave) = true)
    (a3 : PySem.W.findIn K (.ref c_Rounds) "wait" = some (some (.ref a_Rounds_wait)))
    (i3 : PySem.W.isFn K (.ref a_Rounds_wait) = true)
    (l3 : K.lookup a_Rounds_wait = some ⟨oc3, od3, .func (PySem.W.fnOf "wait" "Rounds.wait" (defArgs s_Rounds_wait) (defBody s_Rounds_wait) (defScope s_Rounds_wait) .none kV3 dc3 pm3 an3 cd3 ct3), sl3⟩)
    (c3 : PySem.W.codeIn K cd3 "Rounds.wait" = true)
    (k3 : PySem.W.keepIn K (.ref a_Rounds_wait) = true)
    (a4 : PySem.W.findIn K (.ref c_Rounds) "sweep" = some (some (.ref a_Rounds_sweep)))
    (i4 : PySem.W.isFn K (.ref a_Rounds_sweep) = true)
    (l4 : K.lookup a_Rounds_sweep = some ⟨oc4, od4, .func (PySem.W.fnOf "sweep" "Rounds.sweep" (defArgs s_Rounds_sweep) (defBody s_Rounds_sweep) (defScope s_Rounds_sweep) .none kV4 dc4 pm4 an4 cd4 ct4), sl4⟩)
    (c4 : PySem.W.codeIn K cd4 "Rounds.sweep" = true)
    (k4 : PySem.W.keepIn K (.ref a_Rounds_sweep) = true)
    (a5 : PySem.W.findIn K (.ref c_Rounds) "now" = some (some (.ref a_Rounds_now)))
    (i5 : PySem.W.isFn K (.ref a_Rounds_now) = true)
    (l5 : K.lookup a_Rounds_now = some ⟨oc5, od5, .func (PySem.W.fnOf "now" "Rounds.now" (defArgs s_Rounds_now) (defBody s_Rounds_now) (defScope s_Rounds_now) .none kV5 dc5 pm5 an5 cd5 ct5), sl5⟩)
    (c5 : PySem.W.codeIn K cd5 "Rounds.now" = true)
    (k5 : PySem.W.keepIn K (.ref a_Rounds_now) = true)
    (a6 : PySem.W.findIn K (.ref c_Rounds) "inside" = some (some (.ref a_Rounds_inside)))
    (i6 : PySem.W.isFn K (.ref a_Rounds_inside) = true)
    (l6 : K.lookup a_Rounds_inside = some ⟨oc6, od6, .func (PySem.W.fnOf "inside" "Rounds.inside" (defArgs s_Rounds_inside) (defBody s_Rounds_inside) (defScope s_Rounds_inside) .none kV6 dc6 pm6 an6 cd6 ct6), sl6⟩)
    (c6 : PySem.W.codeIn K cd6 "Rounds.inside" = true)
    (k6 : PySem.W.keepIn K (.ref a_Rounds_inside) = true)
    (a7 : PySem.W.findIn K (.ref c_Rounds) "waiting" = some (some (.ref a_Rounds_waiting)))
    (i7 : PySem.W.isFn K (.ref a_Rounds_waiting) = true)
    (l7 : K.lookup a_Rounds_waiting = some ⟨oc7, od7, .func (PySem.W.fnOf "waiting" "Rounds.waiting" (defArgs s_Rounds_waiting) (defBody s_Rounds_waiting) (defScope s_Rounds_waiting) .none kV7 dc7 pm7 an7 cd7 ct7), sl7⟩)
    (c7 : PySem.W.codeIn K cd7 "Rounds.waiting" = true)
    (k7 : PySem.W.keepIn K (.ref a_Rounds_waiting) = true)
    (a8 : PySem.W.findIn K (.ref c_Rounds) "twin" = some (some (.ref a_Rounds_twin)))
    (i8 : PySem.W.isFn K (.ref a_Rounds_twin) = true)
    (l8 : K.lookup a_Rounds_twin = some ⟨oc8, od8, .func (PySem.W.fnOf "twin" "Rounds.twin" (defArgs s_Rounds_twin) (defBody s_Rounds_twin) (defScope s_Rounds_twin) .none kV8 dc8 pm8 an8 cd8 ct8), sl8⟩)
    (c8 : PySem.W.codeIn K cd8 "Rounds.twin" = true)
    (k8 : PySem.W.keepIn K (.ref a_Rounds_twin) = true)
    (a9 : PySem.W.nsIn K mainGlobals "_law_pool" = some (some (.ref a_pool)))
    (l9 : K.lookup a_pool = some ⟨oc9, od9, .func (PySem.W.fnOf "_law_pool" "_law_pool" (defArgs s_pool) (defBody s_pool) (defScope s_pool) .none kV9 dc9 pm9 an9 cd9 ct9), sl9⟩)
    (c9 : PySem.W.codeIn K cd9 "_law_pool" = true)
    (k9 : PySem.W.keepIn K (.ref a_pool) = true)
    (a10 : PySem.W.nsIn K mainGlobals "_law_take" = some (some (.ref a_take)))
    (l10 : K.lookup a_take = some ⟨oc10, od10, .func (PySem.W.fnOf "_law_take" "_law_take" (defArgs s_take) (defBody s_take) (defScope s_take) .none kV10 dc10 pm10 an10 cd10 ct10), sl10⟩)
    (c10 : PySem.W.codeIn K cd10 "_law_take" = true)
    (k10 : PySem.W.keepIn K (.ref a_take) = true)
    (a11 : PySem.W.nsIn K mainGlobals "_law_look" = some (some (.ref a_look)))
    (l11 : K.lookup a_look = some ⟨oc11, od11, .func (PySem.W.fnOf "_law_look" "_law_look" (defArgs s_look) (defBody s_look) (defScope s_look) .none kV11 dc11 pm11 an11 cd11 ct11), sl11⟩)
    (c11 : PySem.W.codeIn K cd11 "_law_look" = true)
    (k11 : PySem.W.keepIn K (.ref a_look) = true)
    (a12 : PySem.W.nsIn K mainGlobals "_law_deed" = some (some (.ref a_deed)))
    (l12 : K.lookup a_deed = some ⟨oc12, od12, .func (PySem.W.fnOf "_law_deed" "_law_deed" (defArgs s_deed) (defBody s_deed) (defScope s_deed) .none kV12 dc12 pm12 an12 cd12 ct12), sl12⟩)
    (c12 : PySem.W.codeIn K cd12 "_law_deed" = true)
    (k12 : PySem.W.keepIn K (.ref a_deed) = true)
    (a13 : PySem.W.nsIn K mainGlobals "_law_emptied" = some (some (.ref a_emptied)))
    (l13 : K.lookup a_emptied = some ⟨oc13, od13, .func (PySem.W.fnOf "_law_emptied" "_law_emptied" (defArgs s_emptied) (defBody s_emptied) (defScope s_emptied) .none kV13 dc13 pm13 an13 cd13 ct13), sl13⟩)
    (c13 : PySem.W.codeIn K cd13 "_law_emptied" = true)
    (k13 : PySem.W.keepIn K (.ref a_emptied) = true)
    (a14 : PySem.W.nsIn K mainGlobals "law" = some (some (.ref a_law)))
    (l14 : K.lookup a_law = some ⟨oc14, od14, .func (PySem.W.fnOf "law" "law" (defArgs s_law) (defBody s_law) (defScope s_law) .none kV14 dc14 pm14 an14 cd14 ct14), sl14⟩)
    (c14 : PySem.W.codeIn K cd14 "law" = true)
    (k14 : PySem.W.keepIn K (.ref a_law) = true)
    (pg0 : PySem.W.plainGet K c_Rounds Str.empty = true)
    (hd0 : PySem.W.hasDictIn K c_Rounds = true)
    (po0 : PySem.W.plainOver K c_Rounds = true)
    (sa0 : PySem.W.findIn K (.ref c_Rounds) "__setattr__" = some (some (.builtin "object.__setattr__")))
    (mk0 : PySem.W.makesIn K c_Rounds = true)
    (kc0 : PySem.W.keepIn K (.ref c_Rounds) = true)
    (no0_own_now : PySem.W.findIn K (.ref c_Rounds) "own_now" = some none)
    (no0_own_inside : PySem.W.findIn K (.ref c_Rounds) "own_inside" = some none)
    (no0_own_waiting : PySem.W.findIn K (.ref c_Rounds) "own_waiting" = some none)
    (z_len : PySem.W.nsIn K mainGlobals "len" = some none)
    (z_all : PySem.W.nsIn K mainGlobals "all" = some none)
    (z_dict : PySem.W.nsIn K mainGlobals "dict" = some none)
    (z_list : PySem.W.nsIn K mainGlobals "list" = some none)
    (z_range : PySem.W.nsIn K mainGlobals "range" = some none)
    (z_max : PySem.W.nsIn K mainGlobals "max" = some none)
    (z_min : PySem.W.nsIn K mainGlobals "min" = some none)
    (z_enumerate : PySem.W.nsIn K mainGlobals "enumerate" = some none)
    (v_BEHIND : PySem.W.nsIn K mainGlobals "BEHIND" = some (some (.int 2 tk_BEHIND))) :
    ∃ fd : FuncData, (∀ (s : Shared) (v : Value), BindsTo s fd ⟨[v], []⟩ [("_law_script", v)]) ∧ ∀ base : Heap, K.In base → base.Ns mainGlobals mg → FnOk l.prog w K mg base CX0 6 fa fd ["_law_script"] (spLaw K) := by
  have e := hfa.symm.trans (PySem.W.mg_of X G a14)
  cases e
  have F0 := fun_mk (st := s_Rounds_init) l0 c0 k0
  have F1 := fun_mk (st := s_Rounds_enter) l1 c1 k1
  have F2 := fun_mk (st := s_Rounds_leave) l2 c2 k2
  have F3 := fun_mk (st := s_Rounds_wait) l3 c3 k3
  have F4 := fun_mk (st := s_Rounds_sweep) l4 c4 k4
  have F5 := fun_mk (st := s_Rounds_now) l5 c5 k5
  have F6 := fun_mk (st := s_Rounds_inside) l6 c6 k6
  have F7 := fun_mk (st := s_Rounds_waiting) l7 c7 k7
  have F8 := fun_mk (st := s_Rounds_twin) l8 c8 k8
  have F9 := fun_mk (st := s_pool) l9 c9 k9
  have F10 := fun_mk (st := s_take) l10 c10 k10
  have F11 := fun_mk (st := s_look) l11 c11 k11
  have F12 := fun_mk (st := s_deed) l12 c12 k12
  have F13 := fun_mk (st := s_emptied) l13 c13 k13
  have F14 := fun_mk (st := s_law) l14 c14 k14
  have b0 := F0.binds (ps := ["self"]) fun _ _ _ _ _ _ us hl => match us, hl with | [_], _ => rfl
  have b1 := F1.binds (ps := ["self", "name"]) fun _ _ _ _ _ _ us hl => match us, hl with | [_, _], _ => rfl
  have b2 := F2.binds (ps := ["self", "name"]) fun _ _ _ _ _ _ us hl => match us, hl with | [_, _], _ => rfl
  have b3 := F3.binds (ps := ["self", "thing"]) fun _ _ _ _ _ _ us hl => match us, hl with | [_, _], _ => rfl
  have b4 := F4.binds (ps := ["self"]) fun _ _ _ _ _ _ us hl => match us, hl with | [_], _ => rfl
  have b5 := F5.binds (ps := ["self"]) fun _ _ _ _ _ _ us hl => match us, hl with | [_], _ => rfl
  have b6 := F6.binds (ps := ["self"]) fun _ _ _ _ _ _ us hl => match us, hl with | [_], _ => rfl
  have b7 := F7.binds (ps := ["self"]) fun _ _ _ _ _ _ us hl => match us, hl with | [_], _ => rfl
  have b8 := F8.binds (ps := ["self"]) fun _ _ _ _ _ _ us hl => match us, hl with | [_], _ => rfl
  have b9 := F9.binds (ps := ["_law_script", "_law_k"]) fun _ _ _ _ _ _ us hl => match us, hl with | [_, _], _ => rfl
  have b10 := F10.binds (ps := ["_law_pool_here", "_law_many"]) fun _ _ _ _ _ _ us hl => match us, hl with | [_, _], _ => rfl
  have b11 := F11.binds (ps := ["_law_rings"]) fun _ _ _ _ _ _ us hl => match us, hl with | [_], _ => rfl
  have b12 := F12.binds (ps := ["_law_pool_here", "_law_rings"]) fun _ _ _ _ _ _ us hl => match us, hl with | [_, _], _ => rfl
  have b13 := F13.binds (ps := ["_law_rings"]) fun _ _ _ _ _ _ us hl => match us, hl with | [_], _ => rfl
  have b14 := F14.binds (ps := ["_law_script"]) fun _ _ _ _ _ _ us hl => match us, hl with | [_], _ => rfl
  let A : Adr := { a_Rounds_init := a_Rounds_init, a_Rounds_enter := a_Rounds_enter, a_Rounds_leave := a_Rounds_leave, a_Rounds_wait := a_Rounds_wait, a_Rounds_sweep := a_Rounds_sweep, a_Rounds_now := a_Rounds_now, a_Rounds_inside := a_Rounds_inside, a_Rounds_waiting := a_Rounds_waiting, a_Rounds_twin := a_Rounds_twin, a_pool := a_pool, a_take := a_take, a_look := a_look, a_deed := a_deed, a_emptied := a_emptied, a_law := fa, d_Rounds_init := PySem.W.fnOf "__init__" "Rounds.__init__" (defArgs s_Rounds_init) (defBody s_Rounds_init) (defScope s_Rounds_init) .none kV0 dc0 pm0 an0 cd0 ct0, d_Rounds_enter := PySem.W.fnOf "enter" "Rounds.enter" (defArgs s_Rounds_enter) (defBody s_Rounds_enter) (defScope s_Rounds_enter) .none kV1 dc1 pm1 an1 cd1 ct1, d_Rounds_leave := PySem.W.fnOf "leave" "Rounds.leave" (defArgs s_Rounds_leave) (defBody s_Rounds_leave) (defScope s_Rounds_leave) .none kV2 dc2 pm2 an2 cd2 ct2, d_Rounds_wait := PySem.W.fnOf "wait" "Rounds.wait" (defArgs s_Rounds_wait) (defBody s_Rounds_wait) (defScope s_Rounds_wait) .none kV3 dc3 pm3 an3 cd3 ct3, d_Rounds_sweep := PySem.W.fnOf "sweep" "Rounds.sweep" (defArgs s_Rounds_sweep) (defBody s_Rounds_sweep) (defScope s_Rounds_sweep) .none kV4 dc4 pm4 an4 cd4 ct4, d_Rounds_now := PySem.W.fnOf "now" "Rounds.now" (defArgs s_Rounds_now) (defBody s_Rounds_now) (defScope s_Rounds_now) .none kV5 dc5 pm5 an5 cd5 ct5, d_Rounds_inside := PySem.W.fnOf "inside" "Rounds.inside" (defArgs s_Rounds_inside) (defBody s_Rounds_inside) (defScope s_Rounds_inside) .none kV6 dc6 pm6 an6 cd6 ct6, d_Rounds_waiting := PySem.W.fnOf "waiting" "Rounds.waiting" (defArgs s_Rounds_waiting) (defBody s_Rounds_waiting) (defScope s_Rounds_waiting) .none kV7 dc7 pm7 an7 cd7 ct7, d_Rounds_twin := PySem.W.fnOf "twin" "Rounds.twin" (defArgs s_Rounds_twin) (defBody s_Rounds_twin) (defScope s_Rounds_twin) .none kV8 dc8 pm8 an8 cd8 ct8, d_pool := PySem.W.fnOf "_law_pool" "_law_pool" (defArgs s_pool) (defBody s_pool) (defScope s_pool) .none kV9 dc9 pm9 an9 cd9 ct9, d_take := PySem.W.fnOf "_law_take" "_law_take" (defArgs s_take) (defBody s_take) (defScope s_take) .none kV10 dc10 pm10 an10 cd10 ct10, d_look := PySem.W.fnOf "_law_look" "_law_look" (defArgs s_look) (defBody s_look) (defScope s_look) .none kV11 dc11 pm11 an11 cd11 ct11, d_deed := PySem.W.fnOf "_law_deed" "_law_deed" (defArgs s_deed) (defBody s_deed) (defScope s_deed) .none kV12 dc12 pm12 an12 cd12 ct12, d_emptied := PySem.W.fnOf "_law_emptied" "_law_emptied" (defArgs s_emptied) (defBody s_emptied) (defScope s_emptied) .none kV13 dc13 pm13 an13 cd13 ct13, d_law := PySem.W.fnOf "law" "law" (defArgs s_law) (defBody s_law) (defScope s_law) .none kV14 dc14 pm14 an14 cd14 ct14, c_Rounds := c_Rounds }
  have T : Txt K mg A := { F_Rounds_init := F0, b_Rounds_init := b0, mk_Rounds := ⟨mk0, a0, i0, kc0⟩, F_Rounds_enter := F1, b_Rounds_enter := b1, me_Rounds_enter := ⟨a1, i1, k1⟩, F_Rounds_leave := F2, b_Rounds_leave := b2, me_Rounds_leave := ⟨a2, i2, k2⟩, F_Rounds_wait := F3, b_Rounds_wait := b3, me_Rounds_wait := ⟨a3, i3, k3⟩, F_Rounds_sweep := F4, b_Rounds_sweep := b4, me_Rounds_sweep := ⟨a4, i4, k4⟩, F_Rounds_now := F5, b_Rounds_now := b5, me_Rounds_now := ⟨a5, i5, k5⟩, F_Rounds_inside := F6, b_Rounds_inside := b6, me_Rounds_inside := ⟨a6, i6, k6⟩, F_Rounds_waiting := F7, b_Rounds_waiting := b7, me_Rounds_waiting := ⟨a7, i7, k7⟩, F_Rounds_twin := F8, b_Rounds_twin := b8, me_Rounds_twin := ⟨a8, i8, k8⟩, F_pool := F9, b_pool := b9, m_pool := PySem.W.mg_of X G a9, F_take := F10, b_take := b10, m_take := PySem.W.mg_of X G a10, F_look := F11, b_look := b11, m_look := PySem.W.mg_of X G a11, F_deed := F12, b_deed := b12, m_deed := PySem.W.mg_of X G a12, F_emptied := F13, b_emptied := b13, m_emptied := PySem.W.mg_of X G a13, F_law := F14, b_law := b14, m_law := PySem.W.mg_of X G a14, cl_Rounds := ⟨pg0, hd0, po0, sa0⟩, mg_Rounds := PySem.W.mg_of X G aC0, no_Rounds_own_now := no0_own_now, no_Rounds_own_inside := no0_own_inside, no_Rounds_own_waiting := no0_own_waiting, n_len := PySem.W.mg_none_of X G z_len, n_all := PySem.W.mg_none_of X G z_all, n_dict := PySem.W.mg_none_of X G z_dict, n_list := PySem.W.mg_none_of X G z_list, n_range := PySem.W.mg_none_of X G z_range, n_max := PySem.W.mg_none_of X G z_max, n_min := PySem.W.mg_none_of X G z_min, n_enumerate := PySem.W.mg_none_of X G z_enumerate, v_BEHIND := ⟨_, PySem.W.mg_of X G v_BEHIND⟩ }
  exact ⟨A.d_law, fun s v => .of_eq rfl, fun base _ _ => ok_law T⟩
theorem walk {l : PySem.W.OpenLaw} {q : Program} {loose : List Str} {XP : (Str → Option Value) → Heap → Prop} {YP : World → Heap → Prop} {d : DefRec} {K : Params → PySem.W.Frag} (hn : l.most = some 63) (hdf : d.params.defaults = [])
    (hY : ∀ (w : World) (h : Heap), YP w h → (K w.params).In h)
    (F : ∀ (w : World) (mg : Str → Option Value) (fa : Addr) (h : Heap), (K w.params).In h → h.Ns mainGlobals mg → mg d.name = some (.ref fa) →
      ∃ fd : FuncData, (∀ (s : Shared) (u : Value), BindsTo s fd ⟨[u], []⟩ [("_law_script", u)]) ∧ ∀ base : Heap, (K w.params).In base → base.Ns mainGlobals mg → FnOk l.prog w (K w.params) mg base CX0 6 fa fd ["_law_script"] (spLaw (K w.params))) :
    PySem.W.WalkO q loose XP YP l.row.toRowW d [] (fun f vs => PySem.call f vs) :=
  L2.walk_of (n := 63) (k := 6) (x := "_law_script") (CX := fun _ => CX0) (sp := fun w => spLaw (K w.params)) hn (by decide) hdf ⟨rfl, by decide, by decide⟩ hY F (fun _ _ a ns hl _ hS => ⟨a, ns, rfl, hS, hl, fun _ => rfl⟩) fun _ _ _ _ _ z => z
end K20
open PySem PySem.W PyProof.Rows in
set_option maxRecDepth 100000 in
set_option maxHeartbeats 0 in
theorem PySem.Challenge.cw_deltaboughs_k20_whole_rounds_apart_holds : PySem.Challenge.rw_deltaboughs_k20_whole_rounds_apart.Holds := by
  w_on; o_law; k_head; (case hw => w_witness2)
  k_fill
  refine K20.walk (l := PySem.Challenge.rw_deltaboughs_k20_whole_rounds_apart) rfl rfl (fun w h Y => PySem.W.kIn_of Y) ?F
  case F =>
    intro w mg fa h KX G hmg
    refine' K20.all_mk KX G hmg ?aC0 ?a0 ?i0 ?l0 ?c0 ?k0 ?a1 ?i1 ?l1 ?c1 ?k1 ?a2 ?i2 ?l2 ?c2 ?k2 ?a3 ?i3 ?l3 ?c3 ?k3 ?a4 ?i4 ?l4 ?c4 ?k4 ?a5 ?i5 ?l5 ?c5 ?k5 ?a6 ?i6 ?l6 ?c6 ?k6 ?a7 ?i7 ?l7 ?c7 ?k7 ?a8 ?i8 ?l8 ?c8 ?k8 ?a9 ?l9 ?c9 ?k9 ?a10 ?l10 ?c10 ?k10 ?a11 ?l11 ?c11 ?k11 ?a12 ?l12 ?c12 ?k12 ?a13 ?l13 ?c13 ?k13 ?a14 ?l14 ?c14 ?k14 ?pg0 ?hd0 ?po0 ?sa0 ?mk0 ?kc0 ?no0_own_now ?no0_own_inside ?no0_own_waiting ?z_len ?z_all ?z_dict ?z_list ?z_range ?z_max ?z_min ?z_enumerate ?v_BEHIND
    (case aC0 => k_is)
    (case a0 => k_is)
    (case i0 => k_is)
    (case l0 => k_is)
    (case c0 => k_is)
    (case k0 => k_is)
    (case a1 => k_is)
    (case i1 => k_is)
    (case l1 => k_is)
    (case c1 => k_is)
    (case k1 => k_is)
    (case a2 => k_is)
    (case i2 => k_is)
    (case l2 => k_is)
    (case c2 => k_is)
    (case k2 => k_is)
    (case a3 => k_is)
    (case i3 => k_is)
    (case l3 => k_is)
    (case c3 => k_is)
    (case k3 => k_is)
    (case a4 => k_is)
    (case i4 => k_is)
    (case l4 => k_is)
    (case c4 => k_is)
    (case k4 => k_is)
    (case a5 => k_is)
    (case i5 => k_is)
    (case l5 => k_is)
    (case c5 => k_is)
    (case k5 => k_is)
    (case a6 => k_is)
    (case i6 => k_is)
    (case l6 => k_is)
    (case c6 => k_is)
    (case k6 => k_is)
    (case a7 => k_is)
    (case i7 => k_is)
    (case l7 => k_is)
    (case c7 => k_is)
    (case k7 => k_is)
    (case a8 => k_is)
    (case i8 => k_is)
    (case l8 => k_is)
    (case c8 => k_is)
    (case k8 => k_is)
    (case a9 => k_is)
    (case l9 => k_is)
    (case c9 => k_is)
    (case k9 => k_is)
    (case a10 => k_is)
    (case l10 => k_is)
    (case c10 => k_is)
    (case k10 => k_is)
    (case a11 => k_is)
    (case l11 => k_is)
    (case c11 => k_is)
    (case k11 => k_is)
    (case a12 => k_is)
    (case l12 => k_is)
    (case c12 => k_is)
    (case k12 => k_is)
    (case a13 => k_is)
    (case l13 => k_is)
    (case c13 => k_is)
    (case k13 => k_is)
    (case a14 => k_is)
    (case l14 => k_is)
    (case c14 => k_is)
    (case k14 => k_is)
    (case pg0 => k_is)
    (case hd0 => k_is)
    (case po0 => k_is)
    (case sa0 => k_is)
    (case mk0 => k_is)
    (case kc0 => k_is)
    (case no0_own_now => k_is)
    (case no0_own_inside => k_is)
    (case no0_own_waiting => k_is)
    (case z_len => k_is)
    (case z_all => k_is)
    (case z_dict => k_is)
    (case z_list => k_is)
    (case z_range => k_is)
    (case z_max => k_is)
    (case z_min => k_is)
    (case z_enumerate => k_is)
    (case v_BEHIND => k_is)
