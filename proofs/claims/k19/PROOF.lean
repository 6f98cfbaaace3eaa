import PyProof.Rows.All
import Wide.All
import OpenK.AllK
import Wide.FinOn
import HandS.ForMost
import HandS.More
import HandS.Conv
import HandS.Codes

import HandS.Flow
import HandS.Finally
import HandS.Walk
import PySem.Challenge.RW_deltaboughs_k19_whole_nothing_let_go_tha
set_option Elab.async false
set_option maxRecDepth 100000
set_option maxHeartbeats 4000000
namespace M19
/-- lo, lo + 1, .. below hi -/
def zint (lo hi : Int) : List Int := (List.range (hi - lo).toNat).map fun i => lo + (i : Nat)
theorem mem_zint {lo hi x : Int} : x ∈ zint lo hi ↔ lo ≤ x ∧ x < hi := by
  unfold zint
  rw [List.mem_map]
  constructor
  · rintro ⟨i, hi', rfl⟩
    rw [List.mem_range] at hi'
    omega
  · rintro ⟨h1, h2⟩
    refine ⟨(x - lo).toNat, ?_, ?_⟩
    · rw [List.mem_range]; omega
    · omega
theorem zint_snoc {lo hi : Int} (h : lo ≤ hi) : zint lo (hi + 1) = zint lo hi ++ [hi] := by
  unfold zint
  have e : (hi + 1 - lo).toNat = (hi - lo).toNat + 1 := by omega
  rw [e, List.range_succ, List.map_append]
  congr 1
  show [lo + (((hi - lo).toNat : Nat) : Int)] = [hi]
  congr 1
  omega
theorem zint_len (lo hi : Int) : (zint lo hi).length = (hi - lo).toNat := by
  unfold zint; rw [List.length_map, List.length_range]
theorem zint_nodup (lo hi : Int) : (zint lo hi).Nodup := by
  unfold zint
  rw [List.Nodup, List.pairwise_map]
  exact (List.nodup_range).imp fun {a b} h e => h (by omega)
theorem zint_nil (lo : Int) : zint lo lo = [] := by
  unfold zint
  rw [show (lo - lo).toNat = 0 by omega]
  rfl
/-- what waits since so long ago -/
def isOld (now : Int) (w : Int × Int) : Bool := decide (w.2 + 2 ≤ now)
def oldOf (now : Int) (ws : List (Int × Int)) : List (Int × Int) := ws.filter (isOld now)
def leftOf (now : Int) (ws : List (Int × Int)) : List (Int × Int) := ws.filter fun w => !isOld now w
theorem parted (now : Int) : ∀ ws : List (Int × Int), ws.Pairwise (fun a b => a.2 ≤ b.2) → ws = oldOf now ws ++ leftOf now ws
  | [], _ => rfl
  | w :: r, h => by
    obtain ⟨h1, h2⟩ := List.pairwise_cons.mp h
    have ih := parted now r h2
    unfold oldOf leftOf at ih ⊢
    by_cases c : isOld now w = true
    · rw [List.filter_cons, if_pos c, List.filter_cons, if_neg (by simp [c])]
      rw [List.cons_append, ← ih]
    · have all : ∀ x ∈ r, isOld now x = false := fun x hx => by
        have := h1 x hx
        unfold isOld at c ⊢
        simp only [decide_eq_true_eq] at c
        simp only [decide_eq_false_iff_not]
        omega
      have e1 : r.filter (isOld now) = [] := List.filter_eq_nil_iff.mpr fun x hx => by simp [all x hx]
      have e2 : r.filter (fun w => !isOld now w) = r := List.filter_eq_self.mpr fun x hx => by simp [all x hx]
      rw [List.filter_cons, if_neg c, List.filter_cons, if_pos (by simp [c]), e1, e2]
      rfl

end M19
namespace M19
variable {N : Type}
/-- where the round goes on -/
def nextNow (now : Int) (ins : List (N × Int × Int)) : Int := if (ins.all fun x => decide (x.2.1 = now)) = true then now + 1 else now
structure MInv (now last : Int) (ins : List (N × Int × Int)) (ws : List (Int × Int)) (gone : List Int) : Prop where
  r : ∀ x ∈ ins, x.2.1 ≤ now ∧ now ≤ x.2.1 + 1 ∧ x.2.2 ≤ last ∧ 0 ≤ x.2.2
  b : ∀ w ∈ ws, w.2 ≤ now
  s : ws.Pairwise fun a b => a.2 ≤ b.2
  g : gone ++ ws.map (·.1) = zint 0 last
  e : ∀ x ∈ ins, ∀ w ∈ ws, x.2.2 ≤ w.1 → x.2.1 ≤ w.2
  z : 0 ≤ last
theorem start : MInv (N := N) 0 0 [] [] [] :=
  ⟨fun _ h => (by simp at h), fun _ h => (by simp at h), List.Pairwise.nil, rfl, fun _ h => (by simp at h), Int.le_refl _⟩
section
variable {now last : Int} {ins : List (N × Int × Int)} {ws : List (Int × Int)} {gone : List Int}
theorem MInv.enter (I : MInv now last ins ws gone) (n : N) : MInv now last (ins ++ [(n, now, last)]) ws gone := by
  refine ⟨fun x h => ?_, I.b, I.s, I.g, fun x h w hw hx => ?_, I.z⟩
  · rcases List.mem_append.mp h with h | h
    · exact I.r x h
    · rw [List.mem_singleton.mp h]; exact ⟨Int.le_refl _, by show now ≤ now + 1; omega, Int.le_refl _, I.z⟩
  · rcases List.mem_append.mp h with h | h
    · exact I.e x h w hw hx
    · rw [List.mem_singleton.mp h] at hx
      have hx : last ≤ w.1 := hx
      have m : w.1 ∈ zint 0 last := by rw [← I.g]; exact List.mem_append_right _ (List.mem_map_of_mem hw)
      have := (mem_zint.mp m).2
      omega
theorem MInv.leave (I : MInv now last ins ws gone) (f : N × Int × Int → Bool) : MInv now last (ins.filter f) ws gone :=
  ⟨fun x h => I.r x (List.mem_filter.mp h).1, I.b, I.s, I.g, fun x h => I.e x (List.mem_filter.mp h).1, I.z⟩
theorem MInv.wait (I : MInv now last ins ws gone) : MInv now (last + 1) ins (ws ++ [(last, now)]) gone := by
  refine ⟨fun x h => ?_, fun w h => ?_, ?_, ?_, fun x h w hw hx => ?_, ?_⟩
  · obtain ⟨a, b, c⟩ := I.r x h; exact ⟨a, b, by omega⟩
  · rcases List.mem_append.mp h with h | h
    · exact I.b w h
    · rw [List.mem_singleton.mp h]; exact Int.le_refl _
  · rw [List.pairwise_append]
    exact ⟨I.s, List.pairwise_singleton _ _, fun a ha b hb => by rw [List.mem_singleton.mp hb]; exact I.b a ha⟩
  · rw [List.map_append, ← List.append_assoc, I.g]
    exact (zint_snoc I.z).symm
  · rcases List.mem_append.mp hw with hw | hw
    · exact I.e x h w hw hx
    · rw [List.mem_singleton.mp hw]; exact (I.r x h).1
  · have := I.z; omega
theorem next_le (I : MInv now last ins ws gone) : now ≤ nextNow now ins ∧ nextNow now ins ≤ now + 1 := by
  unfold nextNow; split <;> omega
theorem MInv.next (I : MInv now last ins ws gone) {x : N × Int × Int} (h : x ∈ ins) : x.2.1 ≤ nextNow now ins ∧ nextNow now ins ≤ x.2.1 + 1 := by
  obtain ⟨a, b, _⟩ := I.r x h
  unfold nextNow
  split
  · rename_i c
    have := List.all_eq_true.mp c x h
    simp only [decide_eq_true_eq] at this
    omega
  · omega
/-- a sweep: what is let go comes behind what is gone -/
theorem MInv.swept (I : MInv now last ins ws gone) : MInv (nextNow now ins) last ins (leftOf (nextNow now ins) ws) (gone ++ (oldOf (nextNow now ins) ws).map (·.1)) := by
  have pt := parted (nextNow now ins) ws I.s
  refine ⟨fun x h => ⟨(I.next h).1, (I.next h).2, (I.r x h).2.2⟩, fun w h => ?_, I.s.sublist List.filter_sublist, ?_, fun x h w hw => I.e x h w (List.mem_filter.mp hw).1, I.z⟩
  · have := I.b w (List.mem_filter.mp h).1
    have := next_le I
    omega
  · rw [List.append_assoc, ← List.map_append, ← pt, I.g]
/-- nobody inside holds what is let go -/
theorem MInv.unheld (I : MInv now last ins ws gone) {x : N × Int × Int} (h : x ∈ ins) {w : Int × Int} (hw : w ∈ oldOf (nextNow now ins) ws) : w.1 < x.2.2 := by
  obtain ⟨h1, h2⟩ := List.mem_filter.mp hw
  have e := I.e x h w h1
  have n := (I.next h).2
  unfold isOld at h2
  simp only [decide_eq_true_eq] at h2
  apply Classical.byContradiction
  intro c
  have := e (by omega)
  omega
/-- nor is it gone already, at its turn -/
theorem MInv.ungone (I : MInv now last ins ws gone) {a b : List Int} {x : Int} (h : (oldOf (nextNow now ins) ws).map (·.1) = a ++ x :: b) : x ∉ gone ++ a := by
  have J := I.swept
  have nd : (zint 0 last).Nodup := zint_nodup _ _
  rw [← J.g, h] at nd
  intro m
  have nd2 : ((gone ++ a) ++ (x :: (b ++ (leftOf (nextNow now ins) ws).map (·.1)))).Nodup := by
    have e : gone ++ (a ++ x :: b) ++ (leftOf (nextNow now ins) ws).map (·.1) = (gone ++ a) ++ (x :: (b ++ (leftOf (nextNow now ins) ws).map (·.1))) := by simp
    rw [← e]; exact nd
  exact (List.nodup_append.mp nd2).2.2 x m x List.mem_cons_self rfl
/-- with all out two sweeps let all go -/
theorem MInv.emptied (I : MInv now last ([] : List (N × Int × Int)) ws gone) : leftOf (now + 1 + 1) (leftOf (now + 1) ws) = [] := by
  refine List.filter_eq_nil_iff.mpr fun w hw => ?_
  have := I.b w (List.mem_filter.mp hw).1
  unfold isOld
  simp only [Bool.not_eq_true', decide_eq_false_iff_not, Classical.not_not]
  omega
end
end M19
namespace M19
theorem MInv.as {N M : Type} {now last : Int} {ins : List (N × Int × Int)} {ins' : List (M × Int × Int)} {ws : List (Int × Int)} {gone : List Int} (I : MInv now last ins ws gone) (h : ins'.map (·.2) = ins.map (·.2)) : MInv now last ins' ws gone := by
  have tr : ∀ x ∈ ins', ∃ y ∈ ins, y.2 = x.2 := fun x hx => by
    have m : x.2 ∈ ins'.map (·.2) := List.mem_map_of_mem hx
    rw [h] at m
    obtain ⟨y, hy, e⟩ := List.mem_map.mp m
    exact ⟨y, hy, e⟩
  refine ⟨fun x hx => ?_, I.b, I.s, I.g, fun x hx w hw => ?_, I.z⟩
  · obtain ⟨y, hy, e⟩ := tr x hx
    rw [← e]; exact I.r y hy
  · obtain ⟨y, hy, e⟩ := tr x hx
    rw [← e]; exact I.e y hy w hw
end M19

namespace K19
open PySem L2
def top (i : Nat) : Stmt := PySem.Challenge.pw_deltaboughs_k19_whole_nothing_let_go_tha.main.body.getD i (.Pass ⟨0, 0, 0, 0⟩)
abbrev s_Rounds_init : Stmt := inClass (top 6) 0
abbrev s_Rounds_enter : Stmt := inClass (top 6) 1
abbrev s_Rounds_leave : Stmt := inClass (top 6) 2
abbrev s_Rounds_wait : Stmt := inClass (top 6) 3
abbrev s_Rounds_sweep : Stmt := inClass (top 6) 4
abbrev s_Rounds_inside : Stmt := inClass (top 6) 6
abbrev s_Rounds_waiting : Stmt := inClass (top 6) 7
abbrev s_pool : Stmt := top 8
abbrev s_take : Stmt := top 9
abbrev s_swept : Stmt := top 10
abbrev s_out : Stmt := top 11
abbrev s_law : Stmt := top 12
abbrev n_Rounds_init : List Str := ["self"]
abbrev n_Rounds_enter : List Str := ["self", "name", "noted"]
abbrev n_Rounds_leave : List Str := ["self", "name", "noted", "e"]
abbrev n_Rounds_wait : List Str := ["self", "thing"]
abbrev n_Rounds_sweep : List Str := ["self", "old", "noted", "thing", "since"]
abbrev n_Rounds_inside : List Str := ["self"]
abbrev n_Rounds_waiting : List Str := ["self"]
abbrev n_pool : List Str := ["_law_script", "_law_k", "_law_cell", "_law_seed"]
abbrev n_take : List Str := ["_law_pool_here", "_law_many", "_law_found"]
abbrev n_swept : List Str := ["_law_rings", "_law_gone", "_law_owned", "_law_number", "_law_name"]
abbrev n_out : List Str := ["_law_rings", "_law_owned", "_law_name"]
abbrev n_law : List Str := ["_law_script", "_law_rings", "_law_owned", "_law_gone", "_law_last", "_law_k", "_law_pool_here", "_law_turn", "_law_name", "_law_way", "_law_other"]
theorem sc_Rounds_init : FnScope n_Rounds_init ["self"] (defScope s_Rounds_init) := ⟨rfl, rfl, rfl, by decide +kernel, rfl, by decide +kernel, by decide +kernel⟩
theorem sc_Rounds_enter : FnScope n_Rounds_enter ["self", "name"] (defScope s_Rounds_enter) := ⟨rfl, rfl, rfl, by decide +kernel, rfl, by decide +kernel, by decide +kernel⟩
theorem sc_Rounds_leave : FnScope n_Rounds_leave ["self", "name"] (defScope s_Rounds_leave) := ⟨rfl, rfl, rfl, by decide +kernel, rfl, by decide +kernel, by decide +kernel⟩
theorem sc_Rounds_wait : FnScope n_Rounds_wait ["self", "thing"] (defScope s_Rounds_wait) := ⟨rfl, rfl, rfl, by decide +kernel, rfl, by decide +kernel, by decide +kernel⟩
theorem sc_Rounds_sweep : FnScope n_Rounds_sweep ["self"] (defScope s_Rounds_sweep) := ⟨rfl, rfl, rfl, by decide +kernel, rfl, by decide +kernel, by decide +kernel⟩
theorem sc_Rounds_inside : FnScope n_Rounds_inside ["self"] (defScope s_Rounds_inside) := ⟨rfl, rfl, rfl, by decide +kernel, rfl, by decide +kernel, by decide +kernel⟩
theorem sc_Rounds_waiting : FnScope n_Rounds_waiting ["self"] (defScope s_Rounds_waiting) := ⟨rfl, rfl, rfl, by decide +kernel, rfl, by decide +kernel, by decide +kernel⟩
theorem sc_pool : FnScope n_pool ["_law_script", "_law_k"] (defScope s_pool) := ⟨rfl, rfl, rfl, by decide +kernel, rfl, by decide +kernel, by decide +kernel⟩
theorem sc_take : FnScope n_take ["_law_pool_here", "_law_many"] (defScope s_take) := ⟨rfl, rfl, rfl, by decide +kernel, rfl, by decide +kernel, by decide +kernel⟩
theorem sc_swept : FnScope n_swept ["_law_rings", "_law_gone", "_law_owned"] (defScope s_swept) := ⟨rfl, rfl, rfl, by decide +kernel, rfl, by decide +kernel, by decide +kernel⟩
theorem sc_out : FnScope n_out ["_law_rings", "_law_owned"] (defScope s_out) := ⟨rfl, rfl, rfl, by decide +kernel, rfl, by decide +kernel, by decide +kernel⟩
theorem sc_law : FnScope n_law ["_law_script"] (defScope s_law) := ⟨rfl, rfl, rfl, by decide +kernel, rfl, by decide +kernel, by decide +kernel⟩
/-! ### a cut: what stands between a statement and the rest, said once -/
structure Cut (t u : TS) (D : Ends) (σ : St) (H : Hp) : Prop where
  ex : ∃ Mid : St → Hp → Prop, t { D with nx := Mid } σ H ∧ ∀ σ' H', Mid σ' H' → u D σ' H'
theorem cutAt {X : Cx} {st : Stmt} {rest : List Stmt} {t u : TS} (h1 : PS X st t) (h2 : PSs X rest u) : PSs X (st :: rest) (Cut t u) := by
  constructor
  intro pins s σ H D I h
  obtain ⟨Mid, a, b⟩ := h.ex
  apply wpAny_execs_cons
  refine thn (h1.run pins s σ H { D with nx := Mid } I a) ?_
  intro f s1 q
  match f, q with
  | .next, ⟨σ', H', I', m⟩ => exact h2.run pins s1 σ' H' D I' (b σ' H' m)
  | .ret _, q => exact q
  | .brk, q => exact q
  | .cont, q => exact q
theorem un_upd {H : Hp} {a b : Addr} {o : HO} (h : upd H a o b = none) : b ≠ a ∧ H b = none := by
  have n : b ≠ a := fun e => by rw [e, upd_same] at h; cases h
  exact ⟨n, by rwa [upd_ne n] at h⟩
theorem same_upd {H H' : Hp} {a : Addr} {o : HO} (s : Same H H') (h : H a = none) : Same H (upd H' a o) := fun b u e => by
  rw [upd_ne (ne_of_none e h)]; exact s b u e
theorem same_new {H : Hp} {a : Addr} {o : HO} (h : H a = none) : Same H (upd H a o) := same_upd (Same.refl H) h
/-- d[k] = v as one of several targets -/
theorem set_dict {X : Cx} (hu : X.A.units + 1 < cLine) : PSet X (fun o i v H Q => ∃ a H', o = .ref a ∧ DPut H a i v H' ∧ Q H') := by
  intro pins s σ H o i v ov iv u Q I ro ri rv h
  obtain ⟨a, H', rfl, g, q⟩ := h
  cases ro
  exact d_setItem hu I g ri rv fun s' J => ⟨H', J, q⟩
/-- behind i turns of a comprehension that touches nothing that stood: S i is what stands in the new list -/
structure CP (H1 : Hp) (D : Addr) (S : Nat → List V) (i : Nat) (H : Hp) : Prop where
  fr : H1 D = none
  sm : Same H1 H
  at_ : H D = some (.lst (S i))
section
variable {H1 H H' : Hp} {D : Addr} {S : Nat → List V} {i : Nat} {y : V}
theorem CP.start (hD : H1 D = none) (h0 : S 0 = []) : CP H1 D S 0 (upd H1 D (.lst [])) := ⟨hD, same_new hD, by rw [h0]; exact upd_same⟩
theorem CP.push (c : CP H1 D S i H) (s : Same H H') (e : S (i + 1) = S i ++ [y]) : CP H1 D S (i + 1) (upd H' D (.lst (S i ++ [y]))) :=
  ⟨c.fr, same_upd (c.sm.trans s) c.fr, by rw [e]; exact upd_same⟩
theorem CP.skip (c : CP H1 D S i H) (s : Same H H') (e : S (i + 1) = S i) : CP H1 D S (i + 1) H' := ⟨c.fr, c.sm.trans s, by rw [e]; exact s _ _ c.at_⟩
end
theorem Paired.at {α β : Type} {F : α → β → Prop} : ∀ {l : List α} {r : List β} {i : Nat} {x : α}, Paired F l r → l[i]? = some x → ∃ y, r[i]? = some y ∧ F x y
  | _, _, _, _, .nil, e => by simp at e
  | _, _, 0, _, .cons f _, e => by simp at e; subst e; exact ⟨_, rfl, f⟩
  | _, _, i + 1, x, .cons _ t, e => by
    obtain ⟨y, e1, e2⟩ := Paired.at (i := i) (x := x) t (by simpa using e)
    exact ⟨y, by simpa using e1, e2⟩
theorem take_snoc {α : Type} {l : List α} {i : Nat} {x : α} (h : l[i]? = some x) : l.take (i + 1) = l.take i ++ [x] := by
  rw [List.take_add_one, h]; rfl
/-! ### places where a reading is taken up by hand: "go" stops there -/
structure Wrap (p : Prop) : Prop where
  ex : p
theorem pi_w {X : Cx} {tg iter : Expr} {wi : TI} (h : PI X tg iter wi) : PI X tg iter (fun σ H R => wi σ H fun J H1 => Wrap (R J H1)) := by
  refine ⟨fun pins s σ H R I hw => ?_⟩
  refine thn (h.run pins s σ H _ I hw) fun v s1 a => thn a fun itv s2 b => ?_
  obtain ⟨it, fp, tn, J, H', e, I2, T, st, f, r⟩ := b
  exact ⟨it, fp, tn, J, H', e, I2, T, st, f, r.ex⟩
theorem pe_lk {X : Cx} {e : Expr} {t : TE} (h : PE X e t) : PE X e (fun σ H Q => Wrap (tLockE t σ H Q)) :=
  ⟨fun pins s σ H Q I hw => (pe_lock h).run pins s σ H Q I hw.ex⟩
theorem ps_lk {X : Cx} {st : Stmt} {t : TS} (h : PS X st t) : PS X st (fun D σ H => Wrap (tLock t D σ H)) :=
  ⟨fun pins s σ H D I hw => (ps_lock h).run pins s σ H D I hw.ex⟩
/-! ### within a comprehension's block: what is read is said over the def's own context -/
theorem viaE {X : Cx} {e : Expr} {t t' : TE} (h : PE X e t) (q : t = t') : PE X e t' := q ▸ h
theorem viaT {X : Cx} {es : List Expr} {t t' : TT} (h : PTs X es t) (q : t = t') : PTs X es t' := q ▸ h
theorem viaG {X : Cx} {e : Expr} {t t' : TG} (h : PG X e t) (q : t = t') : PG X e t' := q ▸ h
theorem then_ {c : Bool} {A B : Prop} (h : c = true) (a : A) : if c = true then A else B := by rw [if_pos h]; exact a
theorem else_ {c : Bool} {A B : Prop} (h : c = false) (b : B) : if c = true then A else B := by rw [h]; exact b
theorem by2 {c : Bool} {A B : Prop} (h1 : c = true → A) (h2 : c = false → B) : if c = true then A else B := by
  cases c with
  | true => exact h1 rfl
  | false => exact h2 rfl
theorem fm_yes {α β : Type} {ws : List α} {f : α → Bool} {g : α → β} {j : Nat} {x : α} (h : ws[j]? = some x) (c : f x = true) : ((ws.take (j + 1)).filter f).map g = ((ws.take j).filter f).map g ++ [g x] := by
  rw [take_snoc h, List.filter_append, List.map_append, List.filter_cons, if_pos c]; rfl
theorem fm_no {α β : Type} {ws : List α} {f : α → Bool} {g : α → β} {j : Nat} {x : α} (h : ws[j]? = some x) (c : f x = false) : ((ws.take (j + 1)).filter f).map g = ((ws.take j).filter f).map g := by
  rw [take_snoc h, List.filter_append, List.map_append, List.filter_cons, if_neg (by simp [c])]
  show _ ++ [] = _; rw [List.append_nil]
theorem Paired.snoc {α β : Type} {F : α → β → Prop} : ∀ {l : List α} {r : List β} {x : α} {y : β}, Paired F l r → F x y → Paired F (l ++ [x]) (r ++ [y])
  | _, _, _, _, .nil, f => .cons f .nil
  | _, _, _, _, .cons g t, f => .cons g (Paired.snoc t f)
theorem walk_upto {n : Nat} : Walk (Itr 0 n) n (fun _ => True) (YFn fun i => .int (i : Nat)) :=
  walk_range.mono (fun _ h => h) fun i H x H' _ _ h => by
    obtain ⟨h1, h2⟩ := h
    refine ⟨h1, h2.trans ?_⟩
    show V.int (0 + (i : Int)) = V.int i
    rw [Int.zero_add]
/-- an if whose test comes out as b, the heap as it was -/
theorem ifS {tc : TT} {t u : TS} {D : Ends} {σ : St} {H : Hp} (b : Bool) (h : ∀ Q : Bool → Hp → Prop, Q b H → tc σ H Q) (h1 : b = true → t D σ H) (h2 : b = false → u D σ H) : tIfS tc t u D σ H :=
  h _ (by
    cases b with
    | true => exact h1 rfl
    | false => exact h2 rfl)
theorem andQ {a b : Bool} {Q : Bool → Hp → Prop} {H : Hp} {u : Prop} (h : Q (a && b) H) (hu : a = true → Q b H → u) : if a = true then u else Q false H := by
  cases a with
  | true => exact hu rfl h
  | false => exact h
theorem dec_v {i j : Int} : decide (V.int i = V.int j) = decide (i = j) := by simp
theorem map_set_same {α β : Type} {l : List α} {j : Nat} {x y : α} {f : α → β} (h : l[j]? = some x) (e : f y = f x) : (l.set j y).map f = l.map f := by
  apply List.ext_getElem?
  intro n
  rw [List.getElem?_map, List.getElem?_map, List.getElem?_set]
  by_cases c : j = n
  · subst c
    obtain ⟨hl, _⟩ := List.getElem?_eq_some_iff.mp h
    rw [if_pos rfl, if_pos hl, h]
    exact congrArg some e
  · rw [if_neg c]

/-! ### tactics: "arith" and "fact" close a side condition, "hp" looks an object up, "ne" parts two addresses, "go" steps through a reading as far as equations and known facts lead -/
local macro_rules | `(tactic| walk_at "arith") => `(tactic| first
  | omega
  | (dsimp only; omega)
  | exact Nat.le_of_ble_eq_true rfl
  | decide
  | exact ⟨by omega, by omega⟩
  | exact Or.inl ⟨by omega, by omega⟩
  | exact Or.inr ⟨by omega, by omega⟩
  | exact ⟨by omega, by omega, by omega, by omega⟩)
local macro_rules | `(tactic| walk_at "ne") => `(tactic| first
  | (with_reducible assumption)
  | (apply Ne.symm; with_reducible assumption)
  | exact ne_of_none (by assumption) (by assumption)
  | exact Ne.symm (ne_of_none (by assumption) (by assumption)))
local macro_rules | `(tactic| walk_at "hp") => `(tactic| first
  | (with_reducible assumption)
  | (with_reducible exact upd_same)
  | ((with_reducible apply Eq.trans (upd_ne (by walk_at "ne"))); walk_at "hp"))
local macro_rules | `(tactic| walk_at "fact") => `(tactic| first
  | apply Eq.refl
  | (with_reducible assumption)
  | ((with_reducible apply SqL.of); walk_at "hp")
  | ((with_reducible apply SqT.of); walk_at "hp")
  | ((with_reducible apply Or.inl); (with_reducible apply SqL.of); walk_at "hp")
  | ((with_reducible apply Or.inr); (with_reducible apply SqT.of); walk_at "hp")
  | walk_at "hp"
  | ((with_reducible apply Rd.of); walk_at "hp")
  | ((with_reducible show tyV _ _ _ _); exact Or.inl ⟨rfl, _, SqL.of (by walk_at "hp")⟩)
  | ((with_reducible show tyV _ _ _ _); exact Or.inr (Or.inr (Or.inl ⟨rfl, Or.inl ⟨_, by walk_at "hp"⟩⟩)))
  | ((with_reducible show IsD _ _); exact Or.inl ⟨_, Or.inl (by walk_at "hp")⟩)
  | ((with_reducible show SqL _ _ _ _); assumption)
  | ((with_reducible show SqT _ _ _ _); assumption)
  | ((with_reducible show SqL _ _ _ _ ∨ _); apply Or.inl; assumption)
  | ((with_reducible show SqL _ _ _ _ ∨ _); apply Or.inr; assumption)
  | ((with_reducible show ∃ xs, SqL _ _ _ xs); apply Exists.intro; first | (apply SqL.of; walk_at "hp") | assumption)
  | ((with_reducible show ∃ xs, SqT _ _ _ xs); apply Exists.intro; first | (apply SqT.of; walk_at "hp") | assumption)
  | walk_at "arith"
  | assumption)
local macro_rules | `(tactic| walk_at "go1") => `(tactic| first
  | apply Exists.intro
  | (apply And.intro; focus (walk_at "fact")))
local macro_rules | `(tactic| walk_at "go") => `(tactic| repeat (walk_at "go1"))
local macro_rules | `(tactic| walk_at "x_then") => `(tactic| ((with_reducible refine then_ ?_ ?_); focus (first | rfl | assumption | (simp; done))))
local macro_rules | `(tactic| walk_at "x_else") => `(tactic| ((with_reducible refine else_ ?_ ?_); focus (first | rfl | assumption | (simp; done))))

/-! ### the drawing: a pool is a list of two numbers; what is drawn is below what is asked -/
def PoolAt (H : Hp) (q : Addr) : Prop := ∃ c s : Int, H q = some (.lst [.int c, .int s]) ∧ 0 ≤ c ∧ 0 ≤ s ∧ s < 2147483648
def spPool (K : PySem.W.Frag) : Sp := fun vs H Q _ => ∃ (a : Addr) (ns : List Int) (k : Nat), vs = [.ref a, .int k] ∧ SqL K H a (ns.map V.int) ∧ ns.length ≤ 63 ∧ k ≤ 63 ∧
  ∀ (p : Addr) (c s : Int), H p = none → 0 ≤ c → 0 ≤ s → s < 2147483648 → Q (.ref p) (upd H p (.lst [.int c, .int s]))
def spTake : Sp := fun vs H Q _ => ∃ (q : Addr) (m : Int), vs = [.ref q, .int m] ∧ PoolAt H q ∧ 0 < m ∧ m < 1073741824 ∧
  ∀ (r c s : Int), 0 ≤ r → r < m → 0 ≤ c → 0 ≤ s → s < 2147483648 → Q (.int r) (upd H q (.lst [.int c, .int s]))

/-! ### Rounds: an object with a number, a dict, a list -/
theorem nf_ni : ¬ (("own_now" : Str) = "own_inside") := by decide +kernel
theorem nf_nw : ¬ (("own_now" : Str) = "own_waiting") := by decide +kernel
theorem nf_iw : ¬ (("own_inside" : Str) = "own_waiting") := by decide +kernel
def rf (n : Int) (i w : Addr) : List (Str × V) := putF "own_waiting" (V.ref w) (putF "own_inside" (V.ref i) (putF "own_now" (V.int n) []))
theorem rf_now (n : Int) (i w : Addr) : (rf n i w).lookup ("own_now" : Str) = some (V.int n) := by
  unfold rf; rw [lookup_putF, if_neg nf_nw, lookup_putF, if_neg nf_ni, lookup_putF, if_pos rfl]
theorem rf_ins (n : Int) (i w : Addr) : (rf n i w).lookup ("own_inside" : Str) = some (V.ref i) := by
  unfold rf; rw [lookup_putF, if_neg nf_iw, lookup_putF, if_pos rfl]
theorem rf_wai (n : Int) (i w : Addr) : (rf n i w).lookup ("own_waiting" : Str) = some (V.ref w) := by
  unfold rf; rw [lookup_putF, if_pos rfl]
theorem rf_no (n : Int) (i w : Addr) {m : Str} (h1 : ¬ m = "own_now") (h2 : ¬ m = "own_inside") (h3 : ¬ m = "own_waiting") : (rf n i w).lookup m = none := by
  unfold rf; rw [lookup_putF, if_neg h3, lookup_putF, if_neg h2, lookup_putF, if_neg h1]; rfl
theorem rf_eq (n : Int) (i w : Addr) : rf n i w = ([("own_now", V.int n), ("own_inside", V.ref i), ("own_waiting", V.ref w)] : List (Str × V)) := by
  unfold rf; simp only [putF]; rw [if_neg nf_ni]; simp only [putF]; rw [if_neg nf_nw, if_neg nf_iw]
theorem rf_len (n : Int) (i w : Addr) : (rf n i w).length < 1000 := by
  rw [rf_eq]; show 3 < 1000; decide
theorem rf_putN (n m : Int) (i w : Addr) : putF "own_now" (V.int m) (rf n i w) = rf m i w := by
  rw [rf_eq, rf_eq]; simp only [putF]; rw [if_pos True.intro]
theorem rf_putW (n : Int) (i w v : Addr) : putF "own_waiting" (V.ref v) (rf n i w) = rf n i v := by
  rw [rf_eq, rf_eq]; simp only [putF]; rw [if_neg nf_nw, if_neg nf_iw, if_pos True.intro]
def RObj (C : Addr) (H : Hp) (p : Addr) (n : Int) (i w : Addr) : Prop := ∃ dx, H p = some (.ins C dx (rf n i w))
/-- a row of what waits: a tuple of a thing and a number -/
def Row (H : Hp) (t : Addr) (x : V × Int) : Prop := H t = some (.tup [x.1, .int x.2])
def spRInit (C : Addr) : Sp := fun vs H Q _ => ∃ (p dx : Addr), vs = [.ref p] ∧ H p = some (.ins C dx []) ∧
  ∀ (H' : Hp) (i w : Addr), H i = none → H w = none → i ≠ w → RObj C H' p 0 i w → H' i = some (.dK []) → H' w = some (.lst []) → (∀ b u, H b = some u → b ≠ p → H' b = some u) → Q .non H'
def spNow (C : Addr) : Sp := fun vs H Q _ => ∃ (p : Addr) (n : Int) (i w : Addr), vs = [.ref p] ∧ RObj C H p n i w ∧ Q (.int n) H
def spInside (C : Addr) : Sp := fun vs H Q _ => ∃ (p : Addr) (n : Int) (i w : Addr) (kvs : List (Key × V)), vs = [.ref p] ∧ RObj C H p n i w ∧ H i = some (.dK kvs) ∧ ∀ d, H d = none → Q (.ref d) (upd H d (.dK kvs))
def spWaiting (C : Addr) : Sp := fun vs H Q _ => ∃ (p : Addr) (n : Int) (i w : Addr) (xs : List V), vs = [.ref p] ∧ RObj C H p n i w ∧ H w = some (.lst xs) ∧ ∀ d, H d = none → Q (.ref d) (upd H d (.lst xs))
def spWait (C : Addr) : Sp := fun vs H Q _ => ∃ (p : Addr) (x : V) (n : Int) (i w : Addr) (xs : List V), vs = [.ref p, x] ∧ RObj C H p n i w ∧ H w = some (.lst xs) ∧ xs.length < 10000 ∧
  ∀ t, H t = none → Q .non (upd (upd H t (.tup [x, .int n])) w (.lst (xs ++ [.ref t])))
/-- a name that isn't inside goes in -/
def spEnter (C : Addr) : Sp := fun vs H Q _ => ∃ (p : Addr) (s : Str) (n : Int) (i w : Addr) (kvs : List (Key × V)), vs = [.ref p, .str s] ∧ RObj C H p n i w ∧ H i = some (.dK kvs) ∧ kvs.length < 1000 ∧ valV kvs (Sum.inr s) = none ∧
  Q (.int n) (upd H i (.dK (putK kvs (Sum.inr s) (.int n))))
def spLeave (C : Addr) : Sp := fun vs H Q _ => ∃ (p : Addr) (s : Str) (n : Int) (i w : Addr) (kvs : List (Key × V)) (v : V), vs = [.ref p, .str s] ∧ RObj C H p n i w ∧ H i = some (.dK kvs) ∧ valV kvs (Sum.inr s) = some v ∧
  Q v (upd H i (.dK (dropK kvs (Sum.inr s))))
/-- the round behind a sweep -/
def nxt (n : Int) (rs : List Int) : Int := if (rs.all fun r => decide (r = n)) = true then n + 1 else n
def isOld (n : Int) (x : V × Int) : Bool := decide (x.2 + 2 ≤ n)
def spSweep (C : Addr) : Sp := fun vs H Q _ => ∃ (p : Addr) (n : Int) (i w : Addr) (kvs : List (Key × V)) (rs : List Int) (ts : List Addr) (ws : List (V × Int)), vs = [.ref p] ∧ RObj C H p n i w ∧ H i = some (.dK kvs) ∧ kvs.map (·.2) = rs.map V.int ∧
  H w = some (.lst (ts.map V.ref)) ∧ Paired (Row H) ts ws ∧ kvs.length < 1000 ∧ ws.length < 10000 ∧
  ∀ (H' : Hp) (o w' : Addr) (ts' : List Addr), H o = none → H w' = none → o ≠ w' → (∀ b u, H b = some u → b ≠ p → H' b = some u) → RObj C H' p (nxt n rs) i w' →
    H' o = some (.lst ((ws.filter (isOld (nxt n rs))).map (·.1))) → H' w' = some (.lst (ts'.map V.ref)) → Paired (Row H') ts' (ws.filter fun x => !isOld (nxt n rs) x) → Q (.ref o) H'

/-! ### data that == looks at, flat -/
theorem dp_ints {K : PySem.W.Frag} {H : Hp} : ∀ ns : List Int, DpAll K H (ns.map V.int) (ns.map PyData.int)
  | [] => .nil
  | n :: r => .cons (.int n) (dp_ints r)
theorem lay_ints : ∀ ns : List Int, PyData.canLayAll0 (ns.map PyData.int) = true ∧ PyData.depthAll (ns.map PyData.int) = 0
  | [] => ⟨rfl, rfl⟩
  | n :: r => by
    obtain ⟨a, b⟩ := lay_ints r
    rw [List.map_cons, PyData.canLayAll0, PyData.depthAll, a, b]
    exact ⟨rfl, rfl⟩
theorem shaped_ints (ns : List Int) : SeqAt.shaped (.list (ns.map PyData.int)) = true := by
  obtain ⟨a, b⟩ := lay_ints ns
  unfold SeqAt.shaped
  rw [PyData.canLay0, PyData.depth, a, b]
  rfl
theorem can_ints (ns : List Int) : (PyData.list (ns.map PyData.int)).canLay0 = true := by
  rw [PyData.canLay0, (lay_ints ns).1]
/-! ### dicts: an entry at its place -/
section
variable {κ : Type} [DecidableEq κ]
theorem valV_at : ∀ {kvs : List (κ × V)} {j : Nat} {kv : κ × V}, (kvs.map (·.1)).Nodup → kvs[j]? = some kv → valV kvs kv.1 = some kv.2
  | [], _, _, _, h => by simp at h
  | p :: r, 0, kv, _, h => by
    have e : p = kv := Option.some.inj h
    subst e; exact valV_pos rfl
  | p :: r, j + 1, kv, nd, h => by
    have nd' : p.1 ∉ r.map (·.1) ∧ (r.map (·.1)).Nodup := List.nodup_cons.mp nd
    have h' : r[j]? = some kv := by simpa using h
    have ne : ¬ p.1 = kv.1 := fun e => nd'.1 (by rw [e]; exact List.mem_map_of_mem (List.mem_of_getElem? h'))
    rw [valV_neg ne]; exact valV_at nd'.2 h'
theorem valV_of_not {kvs : List (κ × V)} {k : κ} (h : k ∉ kvs.map (·.1)) : valV kvs k = none := by
  cases e : valV kvs k with
  | none => rfl
  | some v => exact (h (valV_in e)).elim
theorem putK_at {kvs : List (κ × V)} {j : Nat} {kv : κ × V} (v : V) (nd : (kvs.map (·.1)).Nodup) (h : kvs[j]? = some kv) : putK kvs kv.1 v = kvs.set j (kv.1, v) := by
  unfold putK
  rw [if_pos (by rw [valV_any, valV_at nd h]; rfl)]
  apply List.ext_getElem?
  intro i
  rw [List.getElem?_map, List.getElem?_set]
  by_cases e : j = i
  · subst e
    have hl : j < kvs.length := (List.getElem?_eq_some_iff.mp h).1
    rw [if_pos rfl, if_pos hl, h]; simp
  · rw [if_neg e]
    cases hi : kvs[i]? with
    | none => rfl
    | some x =>
      have ne : ¬ x.1 = kv.1 := fun q => e (nd_ix (l := kvs.map (·.1)) (x := kv.1) nd (by rw [List.getElem?_map, h]; rfl) (by rw [List.getElem?_map, hi]; exact congrArg some q))
      simp [ne]
end

/-! ### the law's own state -/
/-- (name, where its list stands), the round of its entry, the least number that it holds -/
abbrev Ent := (Str × Addr) × Int × Int
def insK (own : List Ent) : List (Key × V) := own.map fun x => (Sum.inr x.1.1, V.int x.2.1)
def ownK (own : List Ent) : List (Key × V) := own.map fun x => (Sum.inr x.1.1, V.ref x.1.2)
theorem insK_keys (own : List Ent) : (insK own).map (·.1) = own.map fun x => (Sum.inr x.1.1 : Key) := by unfold insK; rw [List.map_map]; rfl
theorem ownK_keys (own : List Ent) : (ownK own).map (·.1) = own.map fun x => (Sum.inr x.1.1 : Key) := by unfold ownK; rw [List.map_map]; rfl
theorem nd_keys {own : List Ent} (h : (own.map (·.1.1)).Nodup) : (own.map fun x => (Sum.inr x.1.1 : Key)).Nodup := by
  rw [List.Nodup, List.pairwise_map] at h ⊢
  exact h.imp fun ne e => ne (Sum.inr.inj e)
theorem not_key {own : List Ent} {s : Str} (h : s ∉ own.map (·.1.1)) : (Sum.inr s : Key) ∉ own.map fun x => (Sum.inr x.1.1 : Key) := fun m => by
  obtain ⟨x, hx, e⟩ := List.mem_map.mp m
  exact h (List.mem_map.mpr ⟨x, hx, Sum.inr.inj e⟩)
structure LI (C : Addr) (H0 H : Hp) (p i w d g : Addr) (now last : Int) (own : List Ent) (ws : List (Int × Int)) (gone : List Int) (ts : List Addr) : Prop where
  s0 : Same H0 H
  fp : H0 p = none
  fi : H0 i = none
  fw : H0 w = none
  fd : H0 d = none
  fg : H0 g = none
  hp : RObj C H p now i w
  hi : H i = some (.dK (insK own))
  hw : H w = some (.lst (ts.map V.ref))
  hr : Paired (fun t (x : Int × Int) => H t = some (.tup [.int x.1, .int x.2])) ts ws
  hd : H d = some (.dK (ownK own))
  ho : ∀ x ∈ own, H x.1.2 = some (.lst ((M19.zint x.2.2 (last + 9)).map V.int)) ∧ x.1.2 ≠ w ∧ x.1.2 ≠ g
  hg : H g = some (.lst (gone.map V.int))
  nid : i ≠ d
  nwg : w ≠ g
  nd : (own.map (·.1.1)).Nodup
  mi : M19.MInv now last own ws gone
section
variable {C : Addr} {H0 H : Hp} {p i w d g : Addr} {now last : Int} {own : List Ent} {ws : List (Int × Int)} {gone : List Int} {ts : List Addr}
/-- an object is changed (or made) that is none of these -/
theorem LI.else_ (L : LI C H0 H p i w d g now last own ws gone ts) {q : Addr} {o : HO} (fq : H0 q = none) (hq : ∀ u, H q = some u → ∃ l l', u = .lst l ∧ o = .lst l') (nw : q ≠ w) (ng : q ≠ g) (no : ∀ x ∈ own, x.1.2 ≠ q) :
    LI C H0 (upd H q o) p i w d g now last own ws gone ts := by
  have ne : ∀ {b : Addr} {u : HO}, H b = some u → (∀ l, u ≠ .lst l) → b ≠ q := fun {b u} e h z => by
    rw [z] at e
    obtain ⟨l, l', e1, _⟩ := hq u e
    exact h l e1
  refine ⟨same_upd L.s0 fq, L.fp, L.fi, L.fw, L.fd, L.fg, ?_, ?_, ?_, ?_, ?_, ?_, ?_, L.nid, L.nwg, L.nd, L.mi⟩
  · obtain ⟨dx, hp⟩ := L.hp
    exact ⟨dx, by rw [upd_ne (ne hp (by intro l z; cases z))]; exact hp⟩
  · rw [upd_ne (ne L.hi (by intro l z; cases z))]; exact L.hi
  · rw [upd_ne nw.symm]; exact L.hw
  · exact Paired.mapP L.hr fun t x e => by rw [upd_ne (ne e (by intro l z; cases z))]; exact e
  · rw [upd_ne (ne L.hd (by intro l z; cases z))]; exact L.hd
  · intro x hx
    rw [upd_ne (no x hx)]; exact L.ho x hx
  · rw [upd_ne ng.symm]; exact L.hg
end
def spSwept (C : Addr) : Sp := fun vs H Q _ => ∃ (H0 : Hp) (p i w d g : Addr) (now last : Int) (own : List Ent) (ws : List (Int × Int)) (gone : List Int) (ts : List Addr), vs = [.ref p, .ref g, .ref d] ∧
  LI C H0 H p i w d g now last own ws gone ts ∧ own.length < 1000 ∧ last ≤ 1000 ∧
  ∀ (H' : Hp) (w' : Addr) (ts' : List Addr), H w' = none → LI C H0 H' p i w' d g (M19.nextNow now own) last own (M19.leftOf (M19.nextNow now own) ws) (gone ++ (M19.oldOf (M19.nextNow now own) ws).map (·.1)) ts' →
    (∀ b u, H b = some u → b ≠ p → b ≠ g → H' b = some u) → Q (.bl true) H'
def spOut (C : Addr) : Sp := fun vs H Q _ => ∃ (H0 : Hp) (p i w d g : Addr) (now last : Int) (own : List Ent) (ws : List (Int × Int)) (gone : List Int) (ts : List Addr), vs = [.ref p, .ref d] ∧
  LI C H0 H p i w d g now last own ws gone ts ∧ ∀ H' : Hp, LI C H0 H' p i w d g now last [] ws gone ts → Q .non H'
def spLaw (K : PySem.W.Frag) : Sp := fun vs H Q _ => ∃ (a : Addr) (ns : List Int), vs = [.ref a] ∧ SqL K H a (ns.map V.int) ∧ ns.length ≤ 63 ∧ ∀ H', Q (.bl true) H'
theorem nxt_eq (now : Int) (own : List Ent) : nxt now (own.map (·.2.1)) = M19.nextNow now own := by
  unfold nxt M19.nextNow; rw [List.all_map]; rfl
def wsV (ws : List (Int × Int)) : List (V × Int) := ws.map fun x => (V.int x.1, x.2)
theorem wsV_old (m : Int) (ws : List (Int × Int)) : ((wsV ws).filter (isOld m)).map (·.1) = ((M19.oldOf m ws).map (·.1)).map V.int := by
  unfold wsV M19.oldOf; rw [List.filter_map, List.map_map, List.map_map]; rfl
theorem wsV_left (m : Int) (ws : List (Int × Int)) : (wsV ws).filter (fun x => !isOld m x) = wsV (M19.leftOf m ws) := by
  unfold wsV M19.leftOf; rw [List.filter_map]; rfl
theorem pair_map {α β γ : Type} {F : α → γ → Prop} {g : β → γ} : ∀ {l : List α} {r : List β}, Paired (fun a b => F a (g b)) l r ↔ Paired F l (r.map g)
  | [], [] => ⟨fun _ => .nil, fun _ => .nil⟩
  | [], _ :: _ => ⟨(fun h => nomatch h), (fun h => nomatch h)⟩
  | _ :: _, [] => ⟨(fun h => nomatch h), (fun h => nomatch h)⟩
  | a :: l, b :: r => by
    have ih := pair_map (F := F) (g := g) (l := l) (r := r)
    constructor
    · intro h; cases h with | cons x t => exact .cons x (ih.mp t)
    · intro h; cases h with | cons x t => exact .cons x (ih.mpr t)
theorem flat_ints (ns : List Int) : (ns.map V.int).all flatV = true := by
  rw [List.all_map]; exact List.all_eq_true.mpr fun _ _ => rfl
theorem inV_ints {x : Int} {ns : List Int} (h : x ∉ ns) : inV (.int x) (ns.map V.int) = false := by
  unfold inV
  rw [List.any_map]
  refine List.any_eq_false.mpr fun y hy e => h ?_
  have e : (y == x) = true := e
  rw [← beq_iff_eq.mp e]; exact hy
theorem ws_short {N : Type} {now last : Int} {ins : List (N × Int × Int)} {ws : List (Int × Int)} {gone : List Int} (I : M19.MInv now last ins ws gone) : (ws.length : Int) + gone.length = last := by
  have e := congrArg List.length I.g
  rw [List.length_append, List.length_map, M19.zint_len] at e
  have := I.z
  omega
section
variable {C : Addr} {H0 H : Hp} {p i w d g : Addr} {now last : Int} {own : List Ent} {ws : List (Int × Int)} {gone : List Int} {ts : List Addr}
theorem rgV_zint (a b : Int) : rgV a b = (M19.zint a b).map V.int := by unfold rgV M19.zint; rw [List.map_map]; rfl
theorem insK_put {own : List Ent} {s : Str} (a : Addr) (r L : Int) (h : s ∉ own.map (·.1.1)) : putK (insK own) (Sum.inr s) (.int r) = insK (own ++ [((s, a), r, L)]) := by
  rw [putK_new _ (valV_of_not (by rw [insK_keys]; exact not_key h))]
  unfold insK; rw [List.map_append]; rfl
theorem ownK_put {own : List Ent} {s : Str} (a : Addr) (r L : Int) (h : s ∉ own.map (·.1.1)) : putK (ownK own) (Sum.inr s) (.ref a) = ownK (own ++ [((s, a), r, L)]) := by
  rw [putK_new _ (valV_of_not (by rw [ownK_keys]; exact not_key h))]
  unfold ownK; rw [List.map_append]; rfl
def without (s : Str) (own : List Ent) : List Ent := own.filter fun x => decide (x.1.1 ≠ s)
theorem insK_drop (own : List Ent) (s : Str) : dropK (insK own) (Sum.inr s) = insK (without s own) := by
  unfold dropK insK without
  rw [List.filter_map]
  congr 2
  funext x
  show decide ((Sum.inr x.1.1 : Key) ≠ Sum.inr s) = decide (x.1.1 ≠ s)
  simp
theorem ownK_drop (own : List Ent) (s : Str) : dropK (ownK own) (Sum.inr s) = ownK (without s own) := by
  unfold dropK ownK without
  rw [List.filter_map]
  congr 2
  funext x
  show decide ((Sum.inr x.1.1 : Key) ≠ Sum.inr s) = decide (x.1.1 ≠ s)
  simp
theorem LI.enter (L : LI C H0 H p i w d g now last own ws gone ts) {s : Str} (hs : s ∉ own.map (·.1.1)) {a : Addr} (ha : H a = none) {o1 o2 : HO} (e1 : o1 = .dK (putK (insK own) (Sum.inr s) (.int now))) (e2 : o2 = .dK (putK (ownK own) (Sum.inr s) (.ref a))) :
    LI C H0 (upd (upd (upd H i o1) a (.lst (rgV last (last + 9)))) d o2) p i w d g now last (own ++ [((s, a), now, last)]) ws gone ts := by
  subst e1; subst e2
  obtain ⟨dx, hp⟩ := L.hp
  have kk : ∀ {b : Addr} {u : HO}, H b = some u → b ≠ i → b ≠ d → ∀ {o1 o2 : HO}, (upd (upd (upd H i o1) a (.lst (rgV last (last + 9)))) d o2) b = some u := fun {b u} e n1 n2 {o1 o2} => by
    rw [upd_ne n2, upd_ne (ne_of_none e ha), upd_ne n1]; exact e
  have nai : a ≠ i := (ne_of_none L.hi ha).symm
  have nad : a ≠ d := (ne_of_none L.hd ha).symm
  refine ⟨fun b u e => kk (L.s0 b u e) (ne_of_none e L.fi) (ne_of_none e L.fd), L.fp, L.fi, L.fw, L.fd, L.fg, ⟨dx, kk hp (ne_of hp L.hi (by intro z; cases z)) (ne_of hp L.hd (by intro z; cases z))⟩, ?_,
    kk L.hw (ne_of L.hw L.hi (by intro z; cases z)) (ne_of L.hw L.hd (by intro z; cases z)), Paired.mapP L.hr fun t x e => kk e (ne_of e L.hi (by intro z; cases z)) (ne_of e L.hd (by intro z; cases z)), ?_, ?_,
    kk L.hg (ne_of L.hg L.hi (by intro z; cases z)) (ne_of L.hg L.hd (by intro z; cases z)), L.nid, L.nwg, ?_, L.mi.enter (s, a)⟩
  · rw [upd_ne L.nid, upd_ne nai.symm, upd_same, insK_put a now last hs]
  · rw [upd_same, ownK_put a now last hs]
  · intro x hx
    rcases List.mem_append.mp hx with hx | hx
    · obtain ⟨h1, h2, h3⟩ := L.ho x hx
      exact ⟨kk h1 (ne_of h1 L.hi (by intro z; cases z)) (ne_of h1 L.hd (by intro z; cases z)), h2, h3⟩
    · obtain rfl := List.mem_singleton.mp hx
      refine ⟨?_, (ne_of_none L.hw ha).symm, (ne_of_none L.hg ha).symm⟩
      show upd _ _ _ a = _
      rw [upd_ne nad, upd_same, rgV_zint]
  · rw [List.map_append]
    exact nd_snoc L.nd hs
theorem LI.leave (L : LI C H0 H p i w d g now last own ws gone ts) {s : Str} {o1 o2 : HO} (e1 : o1 = .dK (dropK (ownK own) (Sum.inr s))) (e2 : o2 = .dK (dropK (insK own) (Sum.inr s))) :
    LI C H0 (upd (upd H d o1) i o2) p i w d g now last (without s own) ws gone ts := by
  subst e1; subst e2
  obtain ⟨dx, hp⟩ := L.hp
  have kk : ∀ {b : Addr} {u : HO}, H b = some u → b ≠ i → b ≠ d → ∀ {o1 o2 : HO}, (upd (upd H d o1) i o2) b = some u := fun {b u} e n1 n2 {o1 o2} => by
    rw [upd_ne n1, upd_ne n2]; exact e
  refine ⟨fun b u e => kk (L.s0 b u e) (ne_of_none e L.fi) (ne_of_none e L.fd), L.fp, L.fi, L.fw, L.fd, L.fg, ⟨dx, kk hp (ne_of hp L.hi (by intro z; cases z)) (ne_of hp L.hd (by intro z; cases z))⟩, ?_,
    kk L.hw (ne_of L.hw L.hi (by intro z; cases z)) (ne_of L.hw L.hd (by intro z; cases z)), Paired.mapP L.hr fun t x e => kk e (ne_of e L.hi (by intro z; cases z)) (ne_of e L.hd (by intro z; cases z)), ?_, ?_,
    kk L.hg (ne_of L.hg L.hi (by intro z; cases z)) (ne_of L.hg L.hd (by intro z; cases z)), L.nid, L.nwg, ?_, L.mi.leave _⟩
  · rw [upd_same, insK_drop]
  · rw [upd_ne L.nid.symm, upd_same, ownK_drop]
  · intro x hx
    obtain ⟨h1, h2, h3⟩ := L.ho x (List.mem_filter.mp hx).1
    exact ⟨kk h1 (ne_of h1 L.hi (by intro z; cases z)) (ne_of h1 L.hd (by intro z; cases z)), h2, h3⟩
  · exact L.nd.sublist (List.filter_sublist.map _)
/-- a pool beside -/
structure PQ (H0 H : Hp) (q w g : Addr) (own : List Ent) : Prop where
  f : H0 q = none
  at_ : PoolAt H q
  nw : q ≠ w
  ng : q ≠ g
  no : ∀ x ∈ own, x.1.2 ≠ q
theorem LI.drawn (L : LI C H0 H p i w d g now last own ws gone ts) {q : Addr} (z : PQ H0 H q w g own) (c s : Int) : LI C H0 (upd H q (.lst [.int c, .int s])) p i w d g now last own ws gone ts := by
  obtain ⟨c', s', hq, _⟩ := z.at_
  exact L.else_ z.f (fun u e => ⟨[.int c', .int s'], [.int c, .int s], (Option.some.inj (hq.symm.trans e)).symm, rfl⟩) z.nw z.ng z.no
theorem PQ.drawn {q : Addr} (z : PQ H0 H q w g own) {c s : Int} (h1 : 0 ≤ c) (h2 : 0 ≤ s) (h3 : s < 2147483648) : PQ H0 (upd H q (.lst [.int c, .int s])) q w g own :=
  ⟨z.f, ⟨c, s, upd_same, h1, h2, h3⟩, z.nw, z.ng, z.no⟩
end
theorem atI_some {α : Type} {xs : List α} {r : Int} (h0 : 0 ≤ r) (h1 : r < (xs.length : Int)) : ∃ c, atI xs r = some c ∧ c ∈ xs := by
  have hl : r.toNat < xs.length := by omega
  have e : r = ((r.toNat : Nat) : Int) := by omega
  refine ⟨xs[r.toNat], ?_, List.getElem_mem hl⟩
  have h := atI_nat (List.getElem?_eq_getElem hl)
  rwa [← e] at h
theorem abc_len : (("abc" : Str).cps.toList.length : Int) = 3 := by decide +kernel
theorem abc_ok : ("abc" : Str).length ≤ sizeLine := by decide +kernel
def OUT (C a : Addr) (H0 : Hp) (k : Nat) (σ : St) (H : Hp) : Prop := Wrap (∃ (p i w d g : Addr) (now last : Int) (own : List Ent) (ws : List (Int × Int)) (gone : List Int) (ts : List Addr) (v5 v6 v7 v8 v9 v10 : Option V),
  σ = [some (.ref a), some (.ref p), some (.ref d), some (.ref g), some (.int last), v5, v6, v7, v8, v9, v10] ∧ LI C H0 H p i w d g now last own ws gone ts ∧ last ≤ 3 * k ∧ own.length ≤ 3 * k)
def INN (C a : Addr) (H0 : Hp) (k t : Nat) (σ : St) (H : Hp) : Prop := Wrap (∃ (p i w d g q : Addr) (now last : Int) (own : List Ent) (ws : List (Int × Int)) (gone : List Int) (ts : List Addr) (v5 v7 v8 v9 v10 : Option V),
  σ = [some (.ref a), some (.ref p), some (.ref d), some (.ref g), some (.int last), v5, some (.ref q), v7, v8, v9, v10] ∧ LI C H0 H p i w d g now last own ws gone ts ∧ PQ H0 H q w g own ∧ last ≤ 3 * k + t ∧ own.length ≤ 3 * k + t)
theorem key_of {own : List Ent} {s : Str} (h : s ∈ own.map (·.1.1)) : ∃ (j : Nat) (e : Ent), own[j]? = some e ∧ e.1.1 = s := by
  obtain ⟨e, he, q⟩ := List.mem_map.mp h
  obtain ⟨j, hj⟩ := List.getElem?_of_mem he
  exact ⟨j, e, hj, q⟩
theorem insK_at {own : List Ent} {j : Nat} {e : Ent} (nd : (own.map (·.1.1)).Nodup) (h : own[j]? = some e) : valV (insK own) (Sum.inr e.1.1) = some (.int e.2.1) :=
  valV_at (kv := (Sum.inr e.1.1, V.int e.2.1)) (j := j) (by rw [insK_keys]; exact nd_keys nd) (by unfold insK; rw [List.getElem?_map, h]; rfl)
theorem ownK_at {own : List Ent} {j : Nat} {e : Ent} (nd : (own.map (·.1.1)).Nodup) (h : own[j]? = some e) : valV (ownK own) (Sum.inr e.1.1) = some (.ref e.1.2) :=
  valV_at (kv := (Sum.inr e.1.1, V.ref e.1.2)) (j := j) (by rw [ownK_keys]; exact nd_keys nd) (by unfold ownK; rw [List.getElem?_map, h]; rfl)
theorem ownK_none {own : List Ent} {s : Str} (h : valV (ownK own) (Sum.inr s) = none) : s ∉ own.map (·.1.1) := fun m => by
  obtain ⟨j, e, _, rfl⟩ := key_of m
  refine valV_not h ?_
  rw [ownK_keys]
  obtain ⟨x, hx, q⟩ := List.mem_map.mp m
  exact List.mem_map.mpr ⟨x, hx, congrArg Sum.inr q⟩
theorem ownK_some {own : List Ent} {s : Str} {v : V} (h : valV (ownK own) (Sum.inr s) = some v) : s ∈ own.map (·.1.1) := by
  have m := valV_in h
  rw [ownK_keys] at m
  obtain ⟨x, hx, q⟩ := List.mem_map.mp m
  exact List.mem_map.mpr ⟨x, hx, Sum.inr.inj q⟩
theorem ownK_set {own : List Ent} {j : Nat} {e : Ent} (a : Addr) (nd : (own.map (·.1.1)).Nodup) (h : own[j]? = some e) : putK (ownK own) (Sum.inr e.1.1) (.ref a) = ownK (own.set j ((e.1.1, a), e.2)) := by
  have h2 : (ownK own)[j]? = some (Sum.inr e.1.1, V.ref e.1.2) := by unfold ownK; rw [List.getElem?_map, h]; rfl
  have q := putK_at (kv := (Sum.inr e.1.1, V.ref e.1.2)) (V.ref a) (by rw [ownK_keys]; exact nd_keys nd) h2
  rw [q]; unfold ownK; rw [List.map_set]
section
variable {C : Addr} {H0 H H' : Hp} {p i w d g q : Addr} {now last : Int} {own own' : List Ent} {ws : List (Int × Int)} {gone : List Int} {ts : List Addr}
theorem PQ.keep {w' : Addr} (z : PQ H0 H q w g own) (h : H' q = H q) (nw : q ≠ w') (no : ∀ x ∈ own', x.1.2 ≠ q) : PQ H0 H' q w' g own' :=
  ⟨z.f, by obtain ⟨c, s, e, r⟩ := z.at_; exact ⟨c, s, h.trans e, r⟩, nw, z.ng, no⟩
theorem PQ.ne (z : PQ H0 H q w g own) {b : Addr} {u : HO} (e : H b = some u) (h : ∀ l, u ≠ .lst l) : q ≠ b := by
  obtain ⟨c, s, e2, _⟩ := z.at_
  exact ne_of e2 e fun k => h _ k.symm
/-- wait, then each list longer by one -/
theorem LI.waited (L : LI C H0 H p i w d g now last own ws gone ts) {t : Addr} (ht : H t = none) {own2 : List Ent} (hn : own2.map (·.1.1) = own.map (·.1.1)) (h2 : own2.map (·.2) = own.map (·.2))
    (kk : ∀ b u, upd (upd H t (.tup [.int last, .int now])) w (.lst (ts.map V.ref ++ [.ref t])) b = some u → b ≠ d → H' b = some u) (hd : H' d = some (.dK (ownK own2)))
    (ho : ∀ x ∈ own2, H' x.1.2 = some (.lst ((M19.zint x.2.2 (last + 1 + 9)).map V.int)) ∧ x.1.2 ≠ w ∧ x.1.2 ≠ g) :
    LI C H0 H' p i w d g now (last + 1) own2 (ws ++ [(last, now)]) gone (ts ++ [t]) := by
  obtain ⟨dx, hp⟩ := L.hp
  have k1 : ∀ {b : Addr} {u : HO}, H b = some u → b ≠ d → b ≠ w → H' b = some u := fun {b u} e n1 n2 => kk b u (by rw [upd_ne n2, upd_ne (ne_of_none e ht)]; exact e) n1
  have nwd : w ≠ d := ne_of L.hw L.hd (by intro z; cases z)
  have ei : insK own2 = insK own := by
    apply List.ext_getElem?
    intro n
    unfold insK
    rw [List.getElem?_map, List.getElem?_map]
    have a := congrArg (·[n]?) hn
    have b := congrArg (·[n]?) h2
    simp only [List.getElem?_map] at a b
    cases e1 : own2[n]? <;> cases e2 : own[n]? <;> rw [e1, e2] at a b <;> simp_all
  have tup : ∀ {b : Addr} {l : List V}, H b = some (.tup l) → H' b = some (.tup l) := fun {b l} e => k1 e (ne_of e L.hd (by intro z; cases z)) (ne_of e L.hw (by intro z; cases z))
  refine ⟨fun b u e => k1 (L.s0 b u e) (ne_of_none e L.fd) (ne_of_none e L.fw), L.fp, L.fi, L.fw, L.fd, L.fg, ⟨dx, k1 hp (ne_of hp L.hd (by intro z; cases z)) (ne_of hp L.hw (by intro z; cases z))⟩,
    by rw [ei]; exact k1 L.hi L.nid (ne_of L.hi L.hw (by intro z; cases z)), ?_, ?_, hd, ho, k1 L.hg (ne_of L.hg L.hd (by intro z; cases z)) L.nwg.symm, L.nid, L.nwg, by rw [hn]; exact L.nd, L.mi.wait.as h2⟩
  · have := kk w _ upd_same nwd
    rw [this, List.map_append]; rfl
  · refine Paired.snoc (Paired.mapP L.hr fun t x e => tup e) ?_
    exact kk t _ (by rw [upd_ne (ne_of_none L.hw ht).symm, upd_same]) (ne_of_none L.hd ht).symm
end

structure Adr where
  (a_Rounds_init a_Rounds_enter a_Rounds_leave a_Rounds_wait a_Rounds_sweep a_Rounds_inside a_Rounds_waiting a_pool a_take a_swept a_out a_law : Addr)
  (d_Rounds_init d_Rounds_enter d_Rounds_leave d_Rounds_wait d_Rounds_sweep d_Rounds_inside d_Rounds_waiting d_pool d_take d_swept d_out d_law : FuncData)
  (c_Rounds : Addr)
structure Txt (K : PySem.W.Frag) (mg : Str → Option Value) (A : Adr) : Prop where
  F_Rounds_init : Fun K "__init__" "Rounds.__init__" s_Rounds_init A.a_Rounds_init A.d_Rounds_init
  b_Rounds_init : Binds K A.d_Rounds_init ["self"] []
  mk_Rounds : Mk K A.c_Rounds A.a_Rounds_init
  F_Rounds_enter : Fun K "enter" "Rounds.enter" s_Rounds_enter A.a_Rounds_enter A.d_Rounds_enter
  b_Rounds_enter : Binds K A.d_Rounds_enter ["self", "name"] []
  me_Rounds_enter : Meth K A.c_Rounds "enter" A.a_Rounds_enter
  F_Rounds_leave : Fun K "leave" "Rounds.leave" s_Rounds_leave A.a_Rounds_leave A.d_Rounds_leave
  b_Rounds_leave : Binds K A.d_Rounds_leave ["self", "name"] []
  me_Rounds_leave : Meth K A.c_Rounds "leave" A.a_Rounds_leave
  F_Rounds_wait : Fun K "wait" "Rounds.wait" s_Rounds_wait A.a_Rounds_wait A.d_Rounds_wait
  b_Rounds_wait : Binds K A.d_Rounds_wait ["self", "thing"] []
  me_Rounds_wait : Meth K A.c_Rounds "wait" A.a_Rounds_wait
  F_Rounds_sweep : Fun K "sweep" "Rounds.sweep" s_Rounds_sweep A.a_Rounds_sweep A.d_Rounds_sweep
  b_Rounds_sweep : Binds K A.d_Rounds_sweep ["self"] []
  me_Rounds_sweep : Meth K A.c_Rounds "sweep" A.a_Rounds_sweep
  F_Rounds_inside : Fun K "inside" "Rounds.inside" s_Rounds_inside A.a_Rounds_inside A.d_Rounds_inside
  b_Rounds_inside : Binds K A.d_Rounds_inside ["self"] []
  me_Rounds_inside : Meth K A.c_Rounds "inside" A.a_Rounds_inside
  F_Rounds_waiting : Fun K "waiting" "Rounds.waiting" s_Rounds_waiting A.a_Rounds_waiting A.d_Rounds_waiting
  b_Rounds_waiting : Binds K A.d_Rounds_waiting ["self"] []
  me_Rounds_waiting : Meth K A.c_Rounds "waiting" A.a_Rounds_waiting
  F_pool : Fun K "_law_pool" "_law_pool" s_pool A.a_pool A.d_pool
  b_pool : Binds K A.d_pool ["_law_script", "_law_k"] []
  m_pool : mg "_law_pool" = some (.ref A.a_pool)
  F_take : Fun K "_law_take" "_law_take" s_take A.a_take A.d_take
  b_take : Binds K A.d_take ["_law_pool_here", "_law_many"] []
  m_take : mg "_law_take" = some (.ref A.a_take)
  F_swept : Fun K "_law_swept" "_law_swept" s_swept A.a_swept A.d_swept
  b_swept : Binds K A.d_swept ["_law_rings", "_law_gone", "_law_owned"] []
  m_swept : mg "_law_swept" = some (.ref A.a_swept)
  F_out : Fun K "_law_out" "_law_out" s_out A.a_out A.d_out
  b_out : Binds K A.d_out ["_law_rings", "_law_owned"] []
  m_out : mg "_law_out" = some (.ref A.a_out)
  F_law : Fun K "law" "law" s_law A.a_law A.d_law
  b_law : Binds K A.d_law ["_law_script"] []
  m_law : mg "law" = some (.ref A.a_law)
  cl_Rounds : Cls K A.c_Rounds
  mg_Rounds : mg "Rounds" = some (.ref A.c_Rounds)
  no_Rounds_own_now : NoAttr K A.c_Rounds "own_now"
  no_Rounds_own_inside : NoAttr K A.c_Rounds "own_inside"
  no_Rounds_own_waiting : NoAttr K A.c_Rounds "own_waiting"
  n_len : mg "len" = none
  n_all : mg "all" = none
  n_dict : mg "dict" = none
  n_list : mg "list" = none
  n_range : mg "range" = none
  n_max : mg "max" = none
  n_min : mg "min" = none
  v_BEHIND : ∃ t, mg "BEHIND" = some (.int 2 t)
section
variable {P : Program} {w : World} {K : PySem.W.Frag} {mg : Str → Option Value} {base : Heap} {A : Adr}
theorem ok_pool (T : Txt K mg A) : FnOk P w K mg base CX0 1 A.a_pool A.d_pool ["_law_script", "_law_k"] (spPool K) := by
  refine T.F_pool.ok sc_pool (fun vs H Q E h => ?_) (fun cdv A' outer s H vs Q E hr h => ?_)
  · obtain ⟨a, ns, k, rfl, _⟩ := h
    rfl
  · obtain ⟨a, ns, k, rfl, hS, hl, hk, q⟩ := h
    have ek : (7919 : Int) * k < 1000000 := by omega
    refine ⟨_, (pss_cons (ps_set (i := 2) sc_pool.nd rfl (Or.inl rfl) pe_int)
      (cutAt (ps_if (pt_cmpR op_lt (pv 1) (pe_callB call_len_seq (by rfl) T.n_len PySem.boot_len (pa_cons (pv 0) pa_nil)) (nomark _))
      (pss_one (ps_set (i := 2) sc_pool.nd rfl (Or.inl rfl) (pe_ix ix_list (pv 0) (pv 1) (fun _ _ => rfl))))
      pss_nil)
      (pss_cons (ps_set (i := 3) sc_pool.nd rfl (Or.inl rfl) (pe_op op_mod (pe_op op_mul (pe_op op_add (pe_op op_add (pe_op op_mod (pv 2) pe_int) (pe_op op_mul (pe_op op_mul pe_int (pv 1)) (pv 1))) pe_int) pe_int) pe_int))
      (cutAt (ps_if (pt_cmpR op_lt (pv 2) (pe_op op_pow pe_int pe_int) (nomark _))
      (pss_one (ps_set (i := 2) sc_pool.nd rfl (Or.inl rfl) pe_int))
      pss_nil)
      (pss_one (ps_ret (pe_lst (pa_cons (pv 2) (pa_cons (pe_op op_add (pe_op op_mod (pe_op op_mul (pv 3) (pv 3)) pe_int) pe_int) pa_nil))))))))), ?_⟩
    refine ⟨fun σ H' => ∃ c : Int, σ = [some (.ref a), some (.int k), some (.int c), none] ∧ H' = H, ?_, ?_⟩
    · walk_at "go"
      refine ite2 (fun c => ?_) (fun c => ?_)
      · have c : (k : Int) < (ns.map V.int).length := of_decide_eq_true c
        rw [List.length_map] at c
        have hx : atI (ns.map V.int) (k : Int) = some (.int (ns[k]'(by omega))) := atI_nat (by rw [List.getElem?_map, List.getElem?_eq_getElem (by omega)]; rfl)
        walk_at "go"
        rfl
      · walk_at "go"
        rfl
    · rintro σ H' ⟨c, rfl, rfl⟩
      walk_at "go"
      show Cut _ _ _ [some (.ref a), some (.int k), some (.int c), some (.int ((c % 2147483629 + 7919 * (k : Int) * k + 11) * 48271 % 2147483647))] H'
      generalize hs : (c % 2147483629 + 7919 * (k : Int) * k + 11) * 48271 % 2147483647 = sd
      have h0 : 0 ≤ sd ∧ sd < 2147483647 := by omega
      refine ⟨fun σ H'' => ∃ c' : Int, σ = [some (.ref a), some (.int k), some (.int c'), some (.int sd)] ∧ H'' = H' ∧ 0 ≤ c', ?_, ?_⟩
      · walk_at "go"
        refine ite2 (fun c => ?_) (fun c => ?_)
        · walk_at "go"
          exact Int.le_refl _
        · walk_at "go"
          have c := of_decide_eq_false (Bool.eq_false_iff.mpr c)

          have e : (10 : Int) ^ (18 : Int).toNat = 1000000000000000000 := by decide
          omega
      · rintro σ H'' ⟨c', rfl, rfl, c0⟩
        walk_at "go"
        exact fun p hp => q p c' (sd * sd % 2147483587 + 1) hp c0 (by omega) (by omega)
theorem ok_take (T : Txt K mg A) : FnOk P w K mg base CX0 1 A.a_take A.d_take ["_law_pool_here", "_law_many"] spTake := by
  refine T.F_take.ok sc_take (fun vs H Q E h => ?_) (fun cdv A' outer s H vs Q E hr h => ?_)
  · obtain ⟨q, m, rfl, _⟩ := h
    rfl
  · obtain ⟨q, m, rfl, ⟨c, s, hq, h1, h2, h3⟩, m0, m1, k⟩ := h
    refine ⟨_, (pss_cons (ps_if (pt_cmpR op_gt (pe_ix ix_list (pv 0) pe_int (fun _ _ => rfl)) pe_int (nomark _))
      (pss_cons (ps_set (i := 2) sc_take.nd rfl (Or.inl rfl) (pe_op op_mod (pe_ix ix_list (pv 0) pe_int (fun _ _ => rfl)) (pv 1)))
      (pss_cons (ps_asg (pe_op op_fdiv (pe_ix ix_list (pv 0) pe_int (fun _ _ => rfl)) (pv 1)) (pg_sub (pv 0) pe_int set_list))
      (pss_one (ps_ret (pv 2)))))
      pss_nil)
      (pss_cons (ps_asg (pe_op op_mod (pe_op op_add (pe_op op_mul (pe_ix ix_list (pv 0) pe_int (fun _ _ => rfl)) pe_int) pe_int) pe_int) (pg_sub (pv 0) pe_int set_list))
      (pss_one (ps_ret (pe_op op_mod (pe_op op_fdiv (pe_op op_mod (pe_op op_mul (pe_ix ix_list (pv 0) pe_int (fun _ _ => rfl)) (pe_ix ix_list (pv 0) pe_int (fun _ _ => rfl))) pe_int) pe_int) (pv 1)))))), ?_⟩
    walk_at "go"
    refine ite2 (fun cp => ?_) (fun cp => ?_)
    · have cp : 0 < c := of_decide_eq_true cp
      walk_at "go"
      exact k (c % m) (c / m) s (Int.emod_nonneg _ (by omega)) (Int.emod_lt_of_pos _ m0) (Int.ediv_nonneg h1 (by omega)) h2 h3
    · walk_at "go"
      have z : ∀ r : Int, 0 ≤ r → r < m → Q (.int r) (upd H q (.lst [.int c, .int ((s * 48271 + 12345) % 2147483647)])) := fun r r0 r1 => k r c _ r0 r1 h1 (Int.emod_nonneg _ (by decide)) (by omega)
      exact z _ (Int.emod_nonneg _ (by omega)) (Int.emod_lt_of_pos _ m0)

theorem ok_Rounds_init (T : Txt K mg A) : FnOk P w K mg base CX0 1 A.a_Rounds_init A.d_Rounds_init ["self"] (spRInit A.c_Rounds) := by
  refine T.F_Rounds_init.ok sc_Rounds_init (fun vs H Q E h => ?_) (fun cdv A' outer s H vs Q E hr h => ?_)
  · obtain ⟨p, dx, rfl, _⟩ := h
    rfl
  · obtain ⟨p, dx, rfl, hp, k⟩ := h
    have cl := T.cl_Rounds; have n1 := T.no_Rounds_own_now; have n2 := T.no_Rounds_own_inside; have n3 := T.no_Rounds_own_waiting
    refine ⟨_, (pss_cons (ps_fld (pv 0) pe_int rfl)
      (pss_cons (ps_fld (pv 0) pe_dnewK rfl)
      (pss_one (ps_fld (pv 0) (pe_lst pa_nil) rfl)))), ?_⟩
    walk_at "go"
    intro i hi
    obtain ⟨nip, hi⟩ := un_upd hi
    have hp1 : (upd H p (.ins A.c_Rounds dx (putF "own_now" (.int 0) []))) p = some (.ins A.c_Rounds dx (putF "own_now" (.int 0) [])) := upd_same
    walk_at "go"
    intro w hw
    obtain ⟨nwp, hw⟩ := un_upd hw
    obtain ⟨nwi, hw⟩ := un_upd hw
    obtain ⟨_, hw⟩ := un_upd hw
    walk_at "go"
    refine k _ i w hi hw nwi.symm ⟨dx, upd_same⟩ ?_ ?_ (fun b u e nb => ?_)
    · rw [upd_ne nip, upd_ne nwi.symm, upd_ne nip]; exact upd_same
    · rw [upd_ne nwp]; exact upd_same
    · rw [upd_ne nb, upd_ne (ne_of_none e hw), upd_ne nb, upd_ne (ne_of_none e hi), upd_ne nb]
      exact e
theorem ok_Rounds_inside (T : Txt K mg A) : FnOk P w K mg base CX0 1 A.a_Rounds_inside A.d_Rounds_inside ["self"] (spInside A.c_Rounds) := by
  refine T.F_Rounds_inside.ok sc_Rounds_inside (fun vs H Q E h => ?_) (fun cdv A' outer s H vs Q E hr h => ?_)
  · obtain ⟨p, n, i, w, kvs, rfl, _⟩ := h
    rfl
  · obtain ⟨p, n, i, w, kvs, rfl, ⟨dx, hp⟩, hi, k⟩ := h
    have cl := T.cl_Rounds; have n2 := T.no_Rounds_own_inside; have f2 := rf_ins n i w
    refine ⟨_, (pss_one (ps_ret (pe_callTy call_dictD (by rfl) T.n_dict (by decide +kernel) (pa_cons (pe_fld (pv 0) rfl) pa_nil)))), ?_⟩
    walk_at "go"
    exact k
theorem ok_Rounds_waiting (T : Txt K mg A) : FnOk P w K mg base CX0 1 A.a_Rounds_waiting A.d_Rounds_waiting ["self"] (spWaiting A.c_Rounds) := by
  refine T.F_Rounds_waiting.ok sc_Rounds_waiting (fun vs H Q E h => ?_) (fun cdv A' outer s H vs Q E hr h => ?_)
  · obtain ⟨p, n, i, w, xs, rfl, _⟩ := h
    rfl
  · obtain ⟨p, n, i, w, xs, rfl, ⟨dx, hp⟩, hw, k⟩ := h
    have cl := T.cl_Rounds; have n3 := T.no_Rounds_own_waiting; have f3 := rf_wai n i w
    refine ⟨_, (pss_one (ps_ret (pe_callTy call_list_of (by rfl) T.n_list (by decide +kernel) (pa_cons (pe_fld (pv 0) rfl) pa_nil)))), ?_⟩
    walk_at "go"
    exact k
theorem ok_Rounds_wait (T : Txt K mg A) : FnOk P w K mg base CX0 1 A.a_Rounds_wait A.d_Rounds_wait ["self", "thing"] (spWait A.c_Rounds) := by
  refine T.F_Rounds_wait.ok sc_Rounds_wait (fun vs H Q E h => ?_) (fun cdv A' outer s H vs Q E hr h => ?_)
  · obtain ⟨p, x, n, i, w, xs, rfl, _⟩ := h
    rfl
  · obtain ⟨p, x, n, i, w, xs, rfl, ⟨dx, hp⟩, hw, hl, k⟩ := h
    have cl := T.cl_Rounds; have n1 := T.no_Rounds_own_now; have n3 := T.no_Rounds_own_waiting; have f1 := rf_now n i w; have f3 := rf_wai n i w
    refine ⟨_, (pss_one (ps_expr (pe_bm PySem.F.plainAttrs_list PySem.F.slot_list_append PySem.F.type_list_append mt_append (pe_fld (pv 0) rfl) (pa_cons (pe_tup (pa_cons (pv 1) (pa_cons (pe_fld (pv 0) rfl) pa_nil))) pa_nil)))), ?_⟩
    walk_at "go"
    intro t ht
    have ntw : w ≠ t := ne_of_none hw ht
    have hl : xs.length < sizeLine := Nat.lt_of_lt_of_le hl (by decide)
    walk_at "go"
    exact k t ht
theorem ok_Rounds_enter (T : Txt K mg A) : FnOk P w K mg base CX0 1 A.a_Rounds_enter A.d_Rounds_enter ["self", "name"] (spEnter A.c_Rounds) := by
  refine T.F_Rounds_enter.ok sc_Rounds_enter (fun vs H Q E h => ?_) (fun cdv A' outer s H vs Q E hr h => ?_)
  · obtain ⟨p, x, n, i, w, kvs, rfl, _⟩ := h
    rfl
  · obtain ⟨p, x, n, i, w, kvs, rfl, ⟨dx, hp⟩, hi, hl, hv, k⟩ := h
    have hu := hu_of hr
    have cl := T.cl_Rounds; have n1 := T.no_Rounds_own_now; have n2 := T.no_Rounds_own_inside; have f1 := rf_now n i w; have f2 := rf_ins n i w
    refine ⟨_, (pss_cons (ps_if (pt_cmp (pc_din hu (pv 1) (pe_fld (pv 0) rfl)))
      (pss_one ps_never)
      pss_nil)
      (pss_cons (ps_asg2 (pe_fld (pv 0) rfl) (pg_sub (pe_fld (pv 0) rfl) (pv 1) (set_dict hu)) (pg_name (i := 2) sc_Rounds_enter.nd rfl (Or.inl rfl)))
      (pss_one (ps_ret (pv 2))))), ?_⟩
    have dp : DPut H i (.str x) (.int n) (upd H i (.dK (putK kvs (Sum.inr x) (.int n)))) := DPut.k (k := Sum.inr x) hi (small1000 (by omega))
    have dg : DGet H i (.str x) none := by rw [← hv]; exact DGet.k (k := Sum.inr x) hi
    walk_at "go"
    exact k
theorem ok_Rounds_leave (T : Txt K mg A) : FnOk P w K mg base CX0 1 A.a_Rounds_leave A.d_Rounds_leave ["self", "name"] (spLeave A.c_Rounds) := by
  refine T.F_Rounds_leave.ok sc_Rounds_leave (fun vs H Q E h => ?_) (fun cdv A' outer s H vs Q E hr h => ?_)
  · obtain ⟨p, x, n, i, w, kvs, v, rfl, _⟩ := h
    rfl
  · obtain ⟨p, x, n, i, w, kvs, v, rfl, ⟨dx, hp⟩, hi, hv, k⟩ := h
    have cl := T.cl_Rounds; have n2 := T.no_Rounds_own_inside; have f2 := rf_ins n i w
    refine ⟨_, (pss_cons (ps_try_thru0 (pss_one (ps_set (i := 2) sc_Rounds_leave.nd rfl (Or.inl rfl) (pe_dpop1 (pe_fld (pv 0) rfl) (pv 1) ⟨rfl, rfl, rfl, rfl⟩))))
      (pss_one (ps_ret (pv 2)))), ?_⟩
    walk_at "go"
    have ek : V.str x = kV (Sum.inr x) := rfl
    walk_at "go"
    exact k
theorem ok_Rounds_sweep (T : Txt K mg A) : FnOk P w K mg base CX0 1 A.a_Rounds_sweep A.d_Rounds_sweep ["self"] (spSweep A.c_Rounds) := by
  refine T.F_Rounds_sweep.ok sc_Rounds_sweep (fun vs H Q E h => ?_) (fun cdv A' outer s H vs Q E hr h => ?_)
  · obtain ⟨p, n, i, w, kvs, rs, ts, ws, rfl, _⟩ := h
    rfl
  · obtain ⟨p, n, i, w, kvs, rs, ts, ws, rfl, ⟨dx, hp⟩, hi, hr', hw, hws, hl, hl2, k⟩ := h
    have cl := T.cl_Rounds; have n1 := T.no_Rounds_own_now; have n2 := T.no_Rounds_own_inside; have n3 := T.no_Rounds_own_waiting
    have f1 := rf_now n i w; have f2 := rf_ins n i w; have f3 := rf_wai n i w
    have nip : p ≠ i := ne_of hp hi (by intro z; cases z)
    obtain ⟨_, v_BEHIND⟩ := T.v_BEHIND
    refine ⟨_, (cutAt (ps_if (pt_val (pe_callB (cr_all rfl) (by rfl) T.n_all (by decide +kernel) (pa_cons (pe_lk (pe_lc (own := [("noted", 2)]) rfl sc_Rounds_sweep.nd (pi_w (pi_values (pe_fld (pv 0) rfl))) (blkOk_by (own := [("noted", 2)]) (N := n_Rounds_sweep) (sc := defScope s_Rounds_sweep) (by decide +kernel)) (fun _ _ _ _ _ => viaG (pg_name (i := 2) sc_Rounds_sweep.nd rfl (Or.inl rfl)) (by first | rfl | (dsimp only [Cx.blk]; done) | (dsimp only [Cx.blk]; rfl))) (fun _ _ _ _ _ => viaT pts_nil (by first | rfl | (dsimp only [Cx.blk]; done) | (dsimp only [Cx.blk]; rfl))) (fun _ _ _ _ _ => viaE (pe_cmpR op_eq (pv 2) (pe_fld (pv 0) rfl) (nomark _)) (by first | rfl | (dsimp only [Cx.blk]; done) | (dsimp only [Cx.blk]; rfl))))) pa_nil)))
      (pss_one (ps_fldaug (pv 0) pe_int in_add))
      pss_nil)
      (pss_cons (ps_setLc (i := 1) (own := [("thing", 3), ("since", 4)]) rfl sc_Rounds_sweep.nd rfl rfl (sw_true rfl rfl rfl (by decide +kernel)) (pi_w (pi_list (pe_fld (pv 0) rfl))) (blkOk_by (own := [("thing", 3), ("since", 4)]) (N := n_Rounds_sweep) (sc := defScope s_Rounds_sweep) (by decide +kernel)) (fun _ _ _ _ _ => viaG (pg_tup (n := 2) rfl (pgs_cons (pg_name (i := 3) sc_Rounds_sweep.nd rfl (Or.inl rfl)) (pgs_cons (pg_name (i := 4) sc_Rounds_sweep.nd rfl (Or.inl rfl)) pgs_nil))) (by first | rfl | (dsimp only [Cx.blk]; done) | (dsimp only [Cx.blk]; rfl))) (fun _ _ _ _ _ => viaT (pts_one (pt_cmpR op_le (pe_op op_add (pv 4) (pe_glob (v := V.int 2) rfl v_BEHIND ⟨_, rfl⟩)) (pe_fld (pv 0) rfl) (nomark _))) (by first | rfl | (dsimp only [Cx.blk]; done) | (dsimp only [Cx.blk]; rfl))) (fun _ _ _ _ _ => viaE (pv 3) (by first | rfl | (dsimp only [Cx.blk]; done) | (dsimp only [Cx.blk]; rfl))))
      (pss_cons (ps_fld (pv 0) (pe_lc (own := [("thing", 3), ("since", 4)]) rfl sc_Rounds_sweep.nd (pi_w (pi_list (pe_fld (pv 0) rfl))) (blkOk_by (own := [("thing", 3), ("since", 4)]) (N := n_Rounds_sweep) (sc := defScope s_Rounds_sweep) (by decide +kernel)) (fun _ _ _ _ _ => viaG (pg_tup (n := 2) rfl (pgs_cons (pg_name (i := 3) sc_Rounds_sweep.nd rfl (Or.inl rfl)) (pgs_cons (pg_name (i := 4) sc_Rounds_sweep.nd rfl (Or.inl rfl)) pgs_nil))) (by first | rfl | (dsimp only [Cx.blk]; done) | (dsimp only [Cx.blk]; rfl))) (fun _ _ _ _ _ => viaT (pts_one (pt_cmpR op_gt (pe_op op_add (pv 4) (pe_glob (v := V.int 2) rfl v_BEHIND ⟨_, rfl⟩)) (pe_fld (pv 0) rfl) (nomark _))) (by first | rfl | (dsimp only [Cx.blk]; done) | (dsimp only [Cx.blk]; rfl))) (fun _ _ _ _ _ => viaE (pe_tup (pa_cons (pv 3) (pa_cons (pv 4) pa_nil))) (by first | rfl | (dsimp only [Cx.blk]; done) | (dsimp only [Cx.blk]; rfl)))) rfl)
      (pss_one (ps_ret (pv 1)))))), ?_⟩
    refine ⟨fun σ H4 => σ = [some (.ref p), none, none, none, none] ∧ H4 p = some (.ins A.c_Rounds dx (rf (nxt n rs) i w)) ∧ ∀ b u, H b = some u → b ≠ p → H4 b = some u, ?_, ?_⟩
    · walk_at "go"
      refine ⟨i, _, hi, True.intro, fun od => ?_⟩
      have hp1 : upd H i (.frz od (.dK kvs)) p = some (.ins A.c_Rounds dx (rf n i w)) := by rw [upd_ne nip]; exact hp
      have hi1 : upd H i (.frz od (.dK kvs)) i = some (.frz od (.dK kvs)) := upd_same
      generalize hH1 : upd H i (.frz od (.dK kvs)) = H1 at hp1 hi1
      have hi2 : ∀ H2 : Hp, Same H1 H2 → H2 i = some (.frz od (.dK kvs)) := fun H2 s => s _ _ hi1
      have hp2 : ∀ H2 : Hp, Same H1 H2 → H2 p = some (.ins A.c_Rounds dx (rf n i w)) := fun H2 s => s _ _ hp1
      walk_at "go"
      refine Wrap.mk fun D hD => ?_
      have hrl : rs.length = kvs.length := by have e := congrArg List.length hr'; rw [List.length_map, List.length_map] at e; exact e.symm
      refine lc_it walk_values (CP H1 D fun j => (rs.take j).map fun r => V.bl (decide (V.int r = V.int n))) (.start hD rfl) (fun j H2 _ c => hi2 _ c.sm) ?_ ?_
      · rintro j x H2 H3 hj c ⟨rfl, key, hx⟩
        have hx' : (rs.map V.int)[j]? = some x := by rw [← hr', List.getElem?_map, hx]; rfl
        rw [List.getElem?_map] at hx'
        cases hr2 : rs[j]? with
        | none => rw [hr2] at hx'; cases hx'
        | some r =>
          rw [hr2] at hx'
          obtain rfl : V.int r = x := Option.some.inj hx'
          have hp3 := hp2 _ c.sm
          have hD3 := c.at_
          have hlen : ((rs.take j).map fun r => V.bl (decide (V.int r = V.int n))).length < sizeLine := by
            rw [List.length_map, List.length_take]
            exact small1000 (by omega)
          walk_at "go"
          exact c.push (Same.refl _) (by show List.map _ (rs.take (j + 1)) = _; rw [take_snoc hr2, List.map_append]; rfl)
      · intro H2 c
        have hi3 := hi2 _ c.sm
        have nDi : D ≠ i := (ne_of_none hi1 hD).symm
        have hD3 : upd H2 i (.dK kvs) D = some (.lst ((rs.map fun r => decide (r = n)).map V.bl)) := by
          rw [upd_ne nDi, c.at_, ← hrl, List.take_length, List.map_map]
          congr 2
          refine List.map_congr_left fun r _ => ?_
          show V.bl (decide (V.int r = V.int n)) = V.bl (decide (r = n))
          congr 1
          simp
        walk_at "go"
        -- the heap as it was, but for what came new
        have hrest : ∀ b u, H b = some u → upd H2 i (.dK kvs) b = some u := fun b u e => by
          by_cases hb : b = i
          · rw [hb, upd_same, ← hi, ← hb]; exact e
          · rw [upd_ne hb]
            refine c.sm _ _ ?_
            rw [← hH1, upd_ne hb]; exact e
        generalize upd H2 i (.dK kvs) = H3 at hrest
        have hall : (rs.map fun r => decide (r = n)).all id = rs.all fun r => decide (r = n) := by rw [List.all_map]; rfl
        with_reducible refine by2 (fun c => ?_) (fun c => ?_)
        · have hp3 := hrest p _ hp
          have hrl := rf_len n i w
          walk_at "go"
          refine ⟨?_, fun b u e nb => by rw [upd_ne nb]; exact hrest b u e⟩
          rw [upd_same, rf_putN]
          unfold nxt
          rw [← hall, if_pos c]
        · walk_at "go"
          refine ⟨?_, fun b u e nb => hrest b u e⟩
          rw [hrest p _ hp]
          unfold nxt
          rw [← hall, if_neg (by rw [c]; decide)]
    · rintro σ H4 ⟨rfl, hp4, hk4⟩
      generalize nxt n rs = m at hp4 k
      have f1 := rf_now m i w; have f3 := rf_wai m i w
      have npw : w ≠ p := ne_of hw hp (by intro z; cases z)
      have hw4 := hk4 w _ hw npw
      have ntp : ∀ t x, Row H t x → t ≠ p := fun t x e => ne_of e hp (by intro z; cases z)
      have hws4 : Paired (Row H4) ts ws := Paired.mapP hws fun t x e => hk4 t _ e (ntp t x e)
      walk_at "go"
      refine Wrap.mk fun D hD => ?_
      refine lc_it walk_list (CP H4 D fun j => ((ws.take j).filter (isOld m)).map (·.1)) (.start hD rfl) (fun j H2 _ c => SqL.of (c.sm _ _ hw4)) ?_ ?_
      · rintro j x H2 H3 hj c ⟨rfl, hx⟩
        rw [List.getElem?_map] at hx
        cases ht : ts[j]? with
        | none => rw [ht] at hx; cases hx
        | some t =>
          rw [ht] at hx
          obtain rfl : V.ref t = x := Option.some.inj hx
          obtain ⟨y, hy, hrow⟩ := Paired.at hws4 ht
          have hrow2 : H3 t = some (.tup [y.1, .int y.2]) := c.sm _ _ hrow
          have hp5 := c.sm _ _ hp4
          have hD5 := c.at_
          have hlen : (((ws.take j).filter (isOld m)).map (·.1)).length < sizeLine := by
            rw [List.length_map]
            exact Nat.lt_of_le_of_lt (List.length_filter_le _ _) (Nat.lt_of_le_of_lt (by rw [List.length_take]; exact Nat.min_le_right _ _) (Nat.lt_of_lt_of_le hl2 (by decide)))
          walk_at "go"
          with_reducible refine by2 (fun b => ?_) (fun b => ?_)
          · walk_at "go"
            exact c.push (Same.refl _) (fm_yes (f := isOld m) (g := fun x : V × Int => x.1) hy b)
          · exact c.skip (Same.refl _) (fm_no (f := isOld m) (g := fun x : V × Int => x.1) hy b)
      · intro H5 c
        have hlen : (ts.map V.ref).length = ws.length := by rw [List.length_map]; exact hws.length
        have hp5 := c.sm _ _ hp4
        have hw5 := c.sm _ _ hw4
        have hD5 : H5 D = some (.lst ((ws.filter (isOld m)).map (·.1))) := by rw [c.at_, hlen, List.take_length]
        have hws5 : Paired (Row H5) ts ws := Paired.mapP hws4 fun t x e => c.sm t _ e
        have hk5 : ∀ b u, H b = some u → b ≠ p → H5 b = some u := fun b u e nb => c.sm _ _ (hk4 b u e nb)
        walk_at "go"
        refine Wrap.mk fun F hF => ?_
        refine lc_it walk_list (fun j H' => H5 F = none ∧ Same H5 H' ∧ ∃ ts' : List Addr, H' F = some (.lst (ts'.map V.ref)) ∧ Paired (Row H') ts' ((ws.take j).filter fun x => !isOld m x)) ⟨hF, same_new hF, [], upd_same, .nil⟩ (fun j H2 _ c => SqL.of (c.2.1 _ _ hw5)) ?_ ?_
        · rintro j x H2 H3 hj ⟨_, sm, ts', hF2, hr2⟩ ⟨rfl, hx⟩
          rw [List.getElem?_map] at hx
          cases ht : ts[j]? with
          | none => rw [ht] at hx; cases hx
          | some t =>
            rw [ht] at hx
            obtain rfl : V.ref t = x := Option.some.inj hx
            obtain ⟨y, hy, hrow⟩ := Paired.at hws5 ht
            have hrow2 : H3 t = some (.tup [y.1, .int y.2]) := sm _ _ hrow
            have hp6 := sm _ _ hp5
            have hlen : (ts'.map V.ref).length < sizeLine := by
              rw [List.length_map, hr2.length]
              exact Nat.lt_of_le_of_lt (List.length_filter_le _ _) (Nat.lt_of_le_of_lt (by rw [List.length_take]; exact Nat.min_le_right _ _) (Nat.lt_of_lt_of_le hl2 (by decide)))
            walk_at "go"
            with_reducible refine by2 (fun b => ?_) (fun b => ?_)
            · have b' : isOld m y = false := by
                have b := of_decide_eq_true b
                exact decide_eq_false (by omega)
              walk_at "go"
              intro q hq
              have nFq : F ≠ q := ne_of_none hF2 hq
              walk_at "go"
              have e : Paired (Row (upd H3 q (.tup [y.1, .int y.2]))) ts' ((ws.take j).filter fun x => !isOld m x) := Paired.mapP hr2 fun t x e => (same_new hq) t _ e
              refine ⟨same_upd (sm.trans (same_new hq)) hF, ts' ++ [q], by rw [upd_same, List.map_append]; rfl, ?_⟩
              have e2 := fm_yes (f := fun x => !isOld m x) (g := id) hy (by simp [b'])
              rw [List.map_id, List.map_id] at e2
              rw [e2]
              have nq : ∀ {t : Addr} {z : V × Int}, Row (upd H3 q (.tup [y.1, .int y.2])) t z → Row (upd (upd H3 q (.tup [y.1, .int y.2])) F (.lst (ts'.map V.ref ++ [V.ref q]))) t z := fun {t z} e => by
                have nt : t ≠ F := fun z => by
                  have e : upd H3 q (.tup [y.1, .int y.2]) t = some (.tup _) := e
                  rw [z, upd_ne nFq, hF2] at e; cases e
                show upd _ _ _ t = _
                rw [upd_ne nt]; exact e
              exact Paired.snoc (Paired.mapP e fun t z e => nq e) (nq upd_same)
            · have b' : isOld m y = true := by
                have b := of_decide_eq_false b
                exact decide_eq_true (by omega)
              refine ⟨hF, sm, ts', hF2, ?_⟩
              have e := fm_no (f := fun x => !isOld m x) (g := id) hy (by simp [b'])
              rw [List.map_id, List.map_id] at e
              rw [e]; exact hr2
        · rintro H6 ⟨_, sm, ts', hF6, hr6⟩
          have hp6 := sm _ _ hp5
          have hrl := rf_len m i w
          walk_at "go"
          rw [rf_putW]
          have hD6 : (upd H6 p (.ins A.c_Rounds dx (rf m i F))) D = some (.lst ((ws.filter (isOld m)).map (·.1))) := by
            rw [upd_ne (ne_of_none hp4 hD).symm]; exact sm _ _ hD5
          have nFp : F ≠ p := (ne_of_none hp5 hF).symm
          have hlen2 : (ts.map V.ref).length = ws.length := by rw [List.length_map]; exact hws.length
          rw [hlen2, List.take_length] at hr6
          refine k _ D F ts' ?_ ?_ (ne_of_none hD5 hF) (fun b u e nb => by rw [upd_ne nb]; exact sm _ _ (hk5 b u e nb)) ⟨dx, upd_same⟩ hD6 (by rw [upd_ne nFp]; exact hF6) ?_
          · cases e : H D with
            | none => rfl
            | some u => rw [hk4 D u e (ne_of_none hp4 hD).symm] at hD; cases hD
          · cases e : H F with
            | none => rfl
            | some u => rw [hk5 F u e nFp] at hF; cases hF
          · refine Paired.mapP hr6 fun t z e => ?_
            have nt : t ≠ p := ne_of e hp6 (by intro z; cases z)
            show upd _ _ _ t = _
            rw [upd_ne nt]; exact e

theorem ok_swept (T : Txt K mg A) : FnOk P w K mg base CX0 3 A.a_swept A.d_swept ["_law_rings", "_law_gone", "_law_owned"] (spSwept A.c_Rounds) := by
  refine T.F_swept.ok sc_swept (fun vs H Q E h => ?_) (fun cdv A' outer s H vs Q E hr h => ?_)
  · obtain ⟨H0, p, i, w, d, g, now, last, own, ws, gone, ts, rfl, _⟩ := h
    rfl
  · obtain ⟨H0, p, i, w, d, g, now, last, own, ws, gone, ts, rfl, L, hol, hla, k⟩ := h
    have hu := hu_of hr
    refine ⟨_, (pss_cons (ps_for PassesOwn.never rfl (pi_w (pi_list (pe_meth0 (pv 0) T.cl_Rounds T.me_Rounds_sweep (ok_Rounds_sweep T) (hr.mono (by decide)) T.b_Rounds_sweep .nil pass0))) (pg_name (i := 3) sc_swept.nd rfl (Or.inr rfl))
      (pss_cons (ps_if (PW.pt (pw_or (pt_cmpR op_in_seq (pv 3) (pv 1) rfl) (pw_or1 (pt_cmpR (op_neD hr.units) (pe_lk (pe_lc (own := [("_law_name", 4)]) rfl sc_swept.nd (pi_w (pi_keys (pv 2))) (blkOk_by (own := [("_law_name", 4)]) (N := n_swept) (sc := defScope s_swept) (by decide +kernel)) (fun _ _ _ _ _ => viaG (pg_name (i := 4) sc_swept.nd rfl (Or.inl rfl)) (by first | rfl | (dsimp only [Cx.blk]; done) | (dsimp only [Cx.blk]; rfl))) (fun _ _ _ _ _ => viaT (pts_one (pt_cmpR op_in_seq (pv 3) (pe_dget hu (pv 2) (pv 4) (fun _ _ => rfl)) rfl)) (by first | rfl | (dsimp only [Cx.blk]; done) | (dsimp only [Cx.blk]; rfl))) (fun _ _ _ _ _ => viaE (pv 4) (by first | rfl | (dsimp only [Cx.blk]; done) | (dsimp only [Cx.blk]; rfl))))) (pe_lst pa_nil) (nomark _)))))
      (pss_one (ps_ret pe_bl))
      pss_nil)
      (pss_one (ps_expr (pe_bm PySem.F.plainAttrs_list PySem.F.slot_list_append PySem.F.type_list_append mt_append (pv 1) (pa_cons (pv 3) pa_nil))))))
      (pss_one (ps_ret pe_bl))), ?_⟩
    obtain ⟨dx, hp⟩ := L.hp; have hi := L.hi; have hw := L.hw
    have f0 : (rf now i w).lookup ("sweep" : Str) = none := rf_no _ _ _ (by decide +kernel) (by decide +kernel) (by decide +kernel)
    have ro : RObj A.c_Rounds H p now i w := ⟨dx, hp⟩
    have e1 : (insK own).map (·.2) = (own.map (·.2.1)).map V.int := by unfold insK; rw [List.map_map, List.map_map]; rfl
    have hr1 : Paired (Row H) ts (wsV ws) := pair_map.mp L.hr
    have hl1 : (insK own).length < 1000 := by unfold insK; rw [List.length_map]; exact hol
    have hl2 : (wsV ws).length < 10000 := by unfold wsV; rw [List.length_map]; have := ws_short L.mi; omega
    walk_at "go"
    intro H' o w' ts' fo fw' now' kp ob ho hw' hr'
    rw [nxt_eq] at ob ho hr'
    rw [wsV_old] at ho
    rw [wsV_left] at hr'
    have J := L.mi.swept
    have un := fun x hx y hy => L.mi.unheld (x := x) hx (w := y) hy
    have ug := fun a b x h => L.mi.ungone (a := a) (b := b) (x := x) h
    generalize hm : M19.nextNow now own = m at *
    generalize hos : (M19.oldOf m ws).map (·.1) = os at *
    have np : ∀ {b : Addr} {u : HO}, H b = some u → (∀ C dx fs, u ≠ .ins C dx fs) → b ≠ p := fun {b u} e h z => by rw [z, hp] at e; cases e; exact h _ _ _ rfl
    have hg' := kp g _ L.hg (np L.hg (by intro _ _ _ z; cases z))
    have hd' := kp d _ L.hd (np L.hd (by intro _ _ _ z; cases z))
    have hi' := kp i _ L.hi (np L.hi (by intro _ _ _ z; cases z))
    have ho' : ∀ x ∈ own, H' x.1.2 = some (.lst ((M19.zint x.2.2 (last + 9)).map V.int)) := fun x hx => kp _ _ (L.ho x hx).1 (np (L.ho x hx).1 (by intro _ _ _ z; cases z))
    have nog : o ≠ g := (ne_of_none L.hg fo).symm
    walk_at "go"
    refine Wrap.mk (for_it walk_list (fun j σ H2 => ∃ v, σ = [some (.ref p), some (.ref g), some (.ref d), v, none] ∧ H2 g = some (.lst ((gone ++ os.take j).map V.int)) ∧ ∀ b u, H' b = some u → b ≠ g → H2 b = some u)
      ⟨none, rfl, by rw [List.take_zero, List.append_nil]; exact hg', fun b u e _ => e⟩ (fun j σ H2 _ ⟨_, _, _, q⟩ => SqL.of (q _ _ ho nog)) ?_ ?_)
    · rintro j x σ H2 H3 hj ⟨v, rfl, hg2, k2⟩ ⟨rfl, hx⟩
      rw [List.getElem?_map] at hx
      cases hn : os[j]? with
      | none => rw [hn] at hx; cases hx
      | some n =>
        rw [hn] at hx
        obtain rfl : V.int n = x := Option.some.inj hx
        have hsplit : os = os.take j ++ n :: os.drop (j + 1) := by
          have hj' := (List.getElem?_eq_some_iff.mp hn)
          obtain ⟨h1, h2⟩ := hj'
          rw [← h2, List.getElem_cons_drop, List.take_append_drop]
        have hng : n ∉ gone ++ os.take j := ug _ _ _ hsplit
        have hnm : n ∈ os := by rw [hsplit]; exact List.mem_append_right _ List.mem_cons_self
        have hi1 := inV_ints hng
        have hf1 := flat_ints (gone ++ os.take j)
        have hfn : flatV (.int n) = true := rfl
        walk_at "go"
        with_reducible refine by2 (fun c => ?_) (fun _ => ?_)
        · have c : inV (.int n) ((gone ++ os.take j).map V.int) = true := c
          rw [hi1] at c; cases c
        have hd2 := k2 d _ hd' (ne_of hd' hg' (by intro z; cases z))
        refine ⟨d, _, hd2, True.intro, fun od => ?_⟩
        walk_at "go"
        refine Or.inl ⟨_, upd_same, Wrap.mk fun D hD => ?_⟩
        have hfr : (upd H3 d (.frz od (.dK (ownK own)))) d = some (.frz od (.dK (ownK own))) := upd_same
        have hk3 : ∀ b u, H' b = some u → b ≠ g → b ≠ d → (upd H3 d (.frz od (.dK (ownK own)))) b = some u := fun b u e n1 n2 => by rw [upd_ne n2]; exact k2 b u e n1
        have hg3 : (upd H3 d (.frz od (.dK (ownK own)))) g = some (.lst ((gone ++ os.take j).map V.int)) := by rw [upd_ne (ne_of hg' hd' (by intro z; cases z))]; exact hg2
        have hun : ∀ b u, H3 b = some u → b ≠ d → (upd H3 d (.frz od (.dK (ownK own)))) b = some u := fun b u e n => by rw [upd_ne n]; exact e
        generalize upd H3 d (.frz od (.dK (ownK own))) = H4 at *
        refine lc_it walk_keys (CP H4 D fun _ => []) (.start hD rfl) (fun j H2 _ c => c.sm _ _ hfr) ?_ ?_
        · rintro i2 x H5 H6 hj c ⟨rfl, ky, v2, hx, rfl⟩
          unfold ownK at hx
          rw [List.getElem?_map] at hx
          cases he : own[i2]? with
          | none => rw [he] at hx; cases hx
          | some e =>
            rw [he] at hx
            cases hx
            have hem : e ∈ own := List.mem_of_getElem? he
            have hfr5 := c.sm _ _ hfr
            have dg : DGet H6 d (.str e.1.1) (some (.ref e.1.2)) := by
              refine .inl ⟨_, Sum.inr e.1.1, .inr ⟨_, hfr5⟩, rfl, ?_⟩
              have he2 : (ownK own)[i2]? = some (Sum.inr e.1.1, V.ref e.1.2) := by unfold ownK; rw [List.getElem?_map, he]; rfl
              exact (valV_at (kv := (Sum.inr e.1.1, V.ref e.1.2)) (by rw [ownK_keys]; exact nd_keys L.nd) he2).symm
            have ha5 : H6 e.1.2 = some (.lst ((M19.zint e.2.2 (last + 9)).map V.int)) := c.sm _ _ (hk3 _ _ (ho' e hem) (L.ho e hem).2.2 (ne_of (ho' e hem) hd' (by intro z; cases z)))
            have hn2 : n ∉ M19.zint e.2.2 (last + 9) := fun m => by
              have h1 := (M19.mem_zint.mp m).1
              rw [← hos] at hnm
              obtain ⟨y, hy, e2⟩ := List.mem_map.mp hnm
              have := un e hem y hy
              omega
            have hi2 := inV_ints hn2
            have hf2 := flat_ints (M19.zint e.2.2 (last + 9))
            walk_at "go"
            with_reducible refine by2 (fun c2 => ?_) (fun _ => c.skip (Same.refl _) rfl)
            have c2 : inV (.int n) ((M19.zint e.2.2 (last + 9)).map V.int) = true := c2
            rw [hi2] at c2; cases c2
        · intro H5 c
          have hfr5 := c.sm _ _ hfr
          have nDd : D ≠ d := (ne_of_none hfr hD).symm
          have hD5 : upd H5 d (.dK (ownK own)) D = some (.lst []) := by rw [upd_ne nDd]; exact c.at_
          have hk5 : ∀ b u, H' b = some u → b ≠ g → upd H5 d (.dK (ownK own)) b = some u := fun b u e n1 => by
            by_cases hb : b = d
            · rw [hb, upd_same, ← hd', ← hb]; exact e
            · rw [upd_ne hb]; exact c.sm _ _ (hk3 b u e n1 hb)
          have hg5 : upd H5 d (.dK (ownK own)) g = some (.lst ((gone ++ os.take j).map V.int)) := by rw [upd_ne (ne_of hg' hd' (by intro z; cases z))]; exact c.sm _ _ hg3
          walk_at "go"
          intro F (hF : (upd H5 d (.dK (ownK own))) F = none)
          have nDF : D ≠ F := ne_of_none hD5 hF
          have ngF : g ≠ F := ne_of_none hg5 hF
          have d1 : Dp K (upd (upd H5 d (.dK (ownK own))) F (.lst [])) (.ref D) (.list []) := .lst (xs := []) (SqL.of (by rw [upd_ne nDF]; exact hD5)) .nil
          have d2 : Dp K (upd (upd H5 d (.dK (ownK own))) F (.lst [])) (.ref F) (.list []) := .lst (xs := []) (SqL.of upd_same) .nil
          refine ⟨_, _, d1, d2, rfl, rfl, ?_⟩
          have hlen : ((gone ++ os.take j).map V.int).length < sizeLine := by
            rw [List.length_map]
            have h1 := congrArg List.length J.g
            rw [List.length_append, List.length_append, List.length_map, M19.zint_len] at h1
            have h2 : (os.take j).length ≤ os.length := by rw [List.length_take]; exact Nat.min_le_right _ _
            have h3 := J.z
            rw [List.length_append]
            exact Nat.lt_of_le_of_lt (by omega : _ ≤ 1000) (by decide)
          walk_at "go"
          refine ⟨?_, fun b u e nb => by rw [upd_ne nb, upd_ne (ne_of_none (hk5 b u e nb) hF)]; exact hk5 b u e nb⟩
          rw [upd_same, take_snoc hn]; simp [List.map_append]
    · rintro σ H2 ⟨v, rfl, hg2, k2⟩
      rw [List.length_map, List.take_length] at hg2
      obtain ⟨dx', hp'⟩ := ob
      have hpn : p ≠ g := ne_of hp L.hg (by intro z; cases z)
      have kk : ∀ b u, H b = some u → b ≠ p → b ≠ g → H2 b = some u := fun b u e n1 n2 => k2 b u (kp b u e n1) n2
      have nwg : w' ≠ g := (ne_of_none L.hg fw').symm
      refine k H2 w' ts' fw' ⟨fun b u e => kk b u (L.s0 b u e) (ne_of_none e L.fp) (ne_of_none e L.fg), L.fp, L.fi, L.s0.free fw', L.fd, L.fg, ⟨dx', k2 _ _ hp' hpn⟩,
        k2 _ _ hi' (ne_of L.hi L.hg (by intro z; cases z)), k2 _ _ hw' nwg, ?_, k2 _ _ hd' (ne_of L.hd L.hg (by intro z; cases z)), ?_, hg2, L.nid, nwg, L.nd, J⟩ kk
      · exact Paired.mapP (pair_map.mpr hr') fun t x e => k2 _ _ e (ne_of e hg' (by intro z; cases z))
      · intro x hx
        exact ⟨k2 _ _ (ho' x hx) (L.ho x hx).2.2, (ne_of_none (L.ho x hx).1 fw'), (L.ho x hx).2.2⟩
theorem ok_out (T : Txt K mg A) : FnOk P w K mg base CX0 3 A.a_out A.d_out ["_law_rings", "_law_owned"] (spOut A.c_Rounds) := by
  refine T.F_out.ok sc_out (fun vs H Q E h => ?_) (fun cdv A' outer s H vs Q E hr h => ?_)
  · obtain ⟨H0, p, i, w, d, g, now, last, own, ws, gone, ts, rfl, _⟩ := h
    rfl
  · obtain ⟨H0, p, i, w, d, g, now, last, own, ws, gone, ts, rfl, L, k⟩ := h
    have hd := L.hd; obtain ⟨dx, hp⟩ := L.hp
    refine ⟨_, (pss_cons (ps_for PassesOwn.never rfl (pi_w (pi_list (pe_callTy (call_listD rfl) (by rfl) T.n_list (by decide +kernel) (pa_cons (pv 1) pa_nil)))) (pg_name (i := 2) sc_out.nd rfl (Or.inl rfl))
      (pss_one (ps_expr (pe_meth (pv 0) T.cl_Rounds T.me_Rounds_leave (ok_Rounds_leave T) (hr.mono (by decide)) T.b_Rounds_leave .nil pass0 (pa_cons (pv 2) pa_nil)))))
      (pss_one (ps_expr (pe_dclear (pv 1))))), ?_⟩
    walk_at "go"
    intro l hl
    have hk : ((ownK own).map fun kv => kV kv.1) = own.map fun x => V.str x.1.1 := by unfold ownK; rw [List.map_map]; rfl
    rw [hk]
    walk_at "go"
    refine Wrap.mk (for_it (walk_list (xs := own.map fun x => V.str x.1.1)) (fun j σ H2 => ∃ v, σ = [some (.ref p), some (.ref d), v] ∧ H2 i = some (.dK (insK (own.drop j))) ∧ ∀ b u, upd H l (.lst (own.map fun x => V.str x.1.1)) b = some u → b ≠ i → H2 b = some u)
      ⟨none, rfl, by rw [upd_ne (ne_of_none L.hi hl)]; exact L.hi, fun b u e _ => e⟩ (fun j σ H2 _ ⟨_, _, _, q⟩ => SqL.of (q _ _ upd_same (ne_of_none L.hi hl).symm)) ?_ ?_)
    · rintro j x σ H2 H3 hj ⟨v, rfl, hi2, k2⟩ ⟨rfl, hx⟩
      rw [List.getElem?_map] at hx
      cases hn : own[j]? with
      | none => rw [hn] at hx; cases hx
      | some e =>
        rw [hn] at hx
        obtain rfl : V.str e.1.1 = x := Option.some.inj hx
        obtain ⟨hjl, hje⟩ := List.getElem?_eq_some_iff.mp hn
        have hdr : own.drop j = e :: own.drop (j + 1) := by rw [← hje, List.getElem_cons_drop]
        have nd2 : ((own.drop j).map (·.1.1)).Nodup := L.nd.sublist ((List.drop_sublist _ _).map _)
        rw [hdr] at nd2
        have nd3 : e.1.1 ∉ (own.drop (j + 1)).map (·.1.1) := (List.nodup_cons.mp nd2).1
        have hv : valV (insK (own.drop j)) (Sum.inr e.1.1) = some (.int e.2.1) := by rw [hdr]; exact valV_pos rfl
        have hdk : dropK (insK (own.drop j)) (Sum.inr e.1.1) = insK (own.drop (j + 1)) := by
          rw [hdr]
          show dropK ((Sum.inr e.1.1, V.int e.2.1) :: insK (own.drop (j + 1))) _ = _
          rw [dropK_pos rfl, dropK_no]
          rw [insK_keys]; exact not_key nd3
        have hp2 := k2 p _ (by rw [upd_ne (ne_of_none hp hl)]; exact hp) (ne_of hp L.hi (by intro z; cases z))
        have f0 : (rf now i w).lookup ("leave" : Str) = none := rf_no _ _ _ (by decide +kernel) (by decide +kernel) (by decide +kernel)
        have ro : RObj A.c_Rounds H3 p now i w := ⟨dx, hp2⟩
        walk_at "go"
        refine ⟨?_, fun b u e nb => by rw [upd_ne nb]; exact k2 b u e nb⟩
        rw [upd_same, hdk]
    · rintro σ H2 ⟨v, rfl, hi2, k2⟩
      rw [List.length_map, List.drop_length] at hi2
      have hd2 := k2 d _ (by rw [upd_ne (ne_of_none L.hd hl)]; exact L.hd) L.nid.symm
      walk_at "go"
      have kk : ∀ b u, H b = some u → b ≠ i → b ≠ d → upd H2 d (.dK []) b = some u := fun b u e n1 n2 => by
        rw [upd_ne n2]; exact k2 b u (by rw [upd_ne (ne_of_none e hl)]; exact e) n1
      refine k _ ⟨fun b u e => kk b u (L.s0 b u e) (ne_of_none e L.fi) (ne_of_none e L.fd), L.fp, L.fi, L.fw, L.fd, L.fg, ⟨dx, kk _ _ hp (ne_of hp L.hi (by intro z; cases z)) (ne_of hp L.hd (by intro z; cases z))⟩,
        by rw [upd_ne L.nid]; exact hi2, kk _ _ L.hw (ne_of L.hw L.hi (by intro z; cases z)) (ne_of L.hw L.hd (by intro z; cases z)), ?_, upd_same, fun x hx => (by simp at hx),
        kk _ _ L.hg (ne_of L.hg L.hi (by intro z; cases z)) (ne_of L.hg L.hd (by intro z; cases z)), L.nid, L.nwg, List.nodup_nil, ?_⟩
      · exact Paired.mapP L.hr fun t x e => kk _ _ e (ne_of e L.hi (by intro z; cases z)) (ne_of e L.hd (by intro z; cases z))
      · have := L.mi.leave fun _ => false
        rwa [List.filter_eq_nil_iff.mpr (by simp)] at this
theorem ok_law (T : Txt K mg A) : FnOk P w K mg base CX0 4 A.a_law A.d_law ["_law_script"] (spLaw K) := by
  refine T.F_law.ok sc_law (fun vs H Q E h => ?_) (fun cdv A' outer s H vs Q E hr h => ?_)
  · obtain ⟨a, ns, rfl, _⟩ := h
    rfl
  · obtain ⟨a, ns, rfl, hS, hns, k⟩ := h
    have hu := hu_of hr
    refine ⟨_, (pss_cons (ps_set (i := 1) sc_law.nd rfl (Or.inl rfl) (pe_make0 T.mk_Rounds (ok_Rounds_init T) (hr.mono (by decide)) rfl T.mg_Rounds T.b_Rounds_init .nil pass0))
      (pss_cons (ps_set (i := 2) sc_law.nd rfl (Or.inl rfl) pe_dnewK)
      (pss_cons (ps_set (i := 3) sc_law.nd rfl (Or.inl rfl) (pe_lst pa_nil))
      (pss_cons (ps_set (i := 4) sc_law.nd rfl (Or.inl rfl) pe_int)
      (pss_cons (ps_for PassesOwn.never rfl (pi_w (pi_range1 rfl T.n_range (pa_cons (pe_callB (call_max2 rfl) (by rfl) T.n_max (by decide +kernel) (pa_cons pe_int (pa_cons (pe_callB (call_min2 rfl) (by rfl) T.n_min (by decide +kernel) (pa_cons (pe_callB call_len_seq (by rfl) T.n_len PySem.boot_len (pa_cons (pv 0) pa_nil)) (pa_cons pe_int pa_nil))) pa_nil))) pa_nil))) (pg_name (i := 5) sc_law.nd rfl (Or.inl rfl))
      (pss_cons (ps_set (i := 6) sc_law.nd rfl (Or.inl rfl) (pe_call (ok_pool T) (hr.mono (by decide)) rfl T.m_pool T.F_pool.kp T.b_pool .nil pass0 (pa_cons (pv 0) (pa_cons (pv 5) pa_nil))))
      (pss_one (ps_for PassesOwn.never rfl (pi_w (pi_range1 rfl T.n_range (pa_cons pe_int pa_nil))) (pg_name (i := 7) sc_law.nd rfl (Or.inl rfl))
      (pss_cons (ps_set (i := 8) sc_law.nd rfl (Or.inl rfl) (pe_ix ix_str pe_str (pe_call (ok_take T) (hr.mono (by decide)) rfl T.m_take T.F_take.kp T.b_take .nil pass0 (pa_cons (pv 6) (pa_cons pe_int pa_nil))) (fun _ _ => rfl)))
      (pss_cons (ps_set (i := 9) sc_law.nd rfl (Or.inl rfl) (pe_call (ok_take T) (hr.mono (by decide)) rfl T.m_take T.F_take.kp T.b_take .nil pass0 (pa_cons (pv 6) (pa_cons pe_int pa_nil))))
      (pss_one (ps_if (PW.pt (pw_and (pt_cmpR op_eq (pv 9) pe_int (nomark _)) (pw_and1 (pt_cmp (pc_dnotin hu (pv 8) (pv 2))))))
      (pss_cons (ps_expr (pe_meth (pv 1) T.cl_Rounds T.me_Rounds_enter (ok_Rounds_enter T) (hr.mono (by decide)) T.b_Rounds_enter .nil pass0 (pa_cons (pv 8) pa_nil)))
      (pss_one (ps_dput hu (pv 2) (pv 8) (pe_listRg rfl rfl T.n_list (prg_2 rfl T.n_range (pv 4) (pe_op op_add (pv 4) pe_int))) rfl)))
      (pss_one (ps_if (PW.pt (pw_and (pt_cmpR op_eq (pv 9) pe_int (nomark _)) (pw_and1 (pt_cmp (pc_din hu (pv 8) (pv 2))))))
      (pss_cons (ps_expr (pe_dpop1 (pv 2) (pv 8) ⟨rfl, rfl, rfl, rfl⟩))
      (pss_one (ps_expr (pe_meth (pv 1) T.cl_Rounds T.me_Rounds_leave (ok_Rounds_leave T) (hr.mono (by decide)) T.b_Rounds_leave .nil pass0 (pa_cons (pv 8) pa_nil)))))
      (pss_one (ps_if (pt_cmpR op_lt (pv 9) pe_int (nomark _))
      (pss_cons (ps_expr (pe_meth (pv 1) T.cl_Rounds T.me_Rounds_wait (ok_Rounds_wait T) (hr.mono (by decide)) T.b_Rounds_wait .nil pass0 (pa_cons (pv 4) pa_nil)))
      (pss_cons (ps_for PassesOwn.never rfl (pi_w (pi_list (pe_callTy (call_listD rfl) (by rfl) T.n_list (by decide +kernel) (pa_cons (pv 2) pa_nil)))) (pg_name (i := 10) sc_law.nd rfl (Or.inl rfl))
      (pss_one (ps_dput hu (pv 2) (pv 10) (pe_op op_cat (pe_dget hu (pv 2) (pv 10) (fun _ _ => rfl)) (pe_lst (pa_cons (pe_op op_add (pv 4) pe_int) pa_nil))) rfl)))
      (pss_one (ps_set (i := 4) sc_law.nd rfl (Or.inl rfl) (pe_op op_add (pv 4) pe_int)))))
      (pss_one (ps_if (pt_not (pt_val (pe_call (ok_swept T) (hr.mono (by decide)) rfl T.m_swept T.F_swept.kp T.b_swept .nil pass0 (pa_cons (pv 1) (pa_cons (pv 3) (pa_cons (pv 2) pa_nil))))))
      (pss_one (ps_ret pe_bl))
      pss_nil))))))))))))))
      (pss_cons (ps_expr (pe_call (ok_out T) (hr.mono (by decide)) rfl T.m_out T.F_out.kp T.b_out .nil pass0 (pa_cons (pv 1) (pa_cons (pv 2) pa_nil))))
      (pss_cons (ps_if (PW.pt (pw_or (pt_not (pt_val (pe_call (ok_swept T) (hr.mono (by decide)) rfl T.m_swept T.F_swept.kp T.b_swept .nil pass0 (pa_cons (pv 1) (pa_cons (pv 3) (pa_cons (pv 2) pa_nil)))))) (pw_or1 (pt_not (pt_val (pe_call (ok_swept T) (hr.mono (by decide)) rfl T.m_swept T.F_swept.kp T.b_swept .nil pass0 (pa_cons (pv 1) (pa_cons (pv 3) (pa_cons (pv 2) pa_nil)))))))))
      (pss_one (ps_ret pe_bl))
      pss_nil)
      (pss_one (ps_ret (pe_and (pe_cmpR (op_eqD hr.units) (pv 3) (pe_listRg rfl rfl T.n_list (prg_1 rfl T.n_range (pv 4))) (nomark _)) (pe_and (pe_cmpR (op_eqD hr.units) (pe_meth0 (pv 1) T.cl_Rounds T.me_Rounds_waiting (ok_Rounds_waiting T) (hr.mono (by decide)) T.b_Rounds_waiting .nil pass0) (pe_lst pa_nil) (nomark _)) (pe_one (pe_cmpR (op_eq_dict (Nat.lt_of_succ_lt hu)) (pe_meth0 (pv 1) T.cl_Rounds T.me_Rounds_inside (ok_Rounds_inside T) (hr.mono (by decide)) T.b_Rounds_inside .nil pass0) pe_dnewK (nomark _)))))))))))))), ?_⟩
    walk_at "go"
    intro x dx nx ndx nex
    have hx0 : (upd (upd H dx (.own x)) x (.ins A.c_Rounds dx [])) x = some (.ins A.c_Rounds dx []) := upd_same
    walk_at "go"
    intro H1 i w fi fw niw ob hi hw kp
    have s1 : Same H H1 := fun b u e => kp b u (by rw [upd_ne (ne_of_none e nx), upd_ne (ne_of_none e ndx)]; exact e) (ne_of_none e nx)
    walk_at "go"
    intro d fd
    walk_at "go"
    intro g fg
    walk_at "go"
    have ndx : d ≠ x := by intro z; obtain ⟨dx', ob⟩ := ob; rw [z, ob] at fd; cases fd
    obtain ⟨dx', ob'⟩ := ob
    obtain ⟨ngd, fg1⟩ := un_upd fg
    have s3 : Same H (upd (upd H1 d (.dK [])) g (.lst [])) := (s1.trans (same_new fd)).trans (same_new fg)
    have hS3 := s3.seq hS
    have fh : ∀ {b : Addr}, H1 b = none → H b = none := fun {b} z => s1.free z
    have fi0 : H i = none := (un_upd (un_upd fi).2).2
    have fw0 : H w = none := (un_upd (un_upd fw).2).2
    have kk : ∀ {b : Addr} {u : HO}, H1 b = some u → (upd (upd H1 d (.dK [])) g (.lst [])) b = some u := fun {b u} e => by
      rw [upd_ne (ne_of_none e fg1), upd_ne (ne_of_none e fd)]; exact e
    have L0 : LI A.c_Rounds H (upd (upd H1 d (.dK [])) g (.lst [])) x i w d g 0 0 [] [] [] [] :=
      ⟨s3, nx, fi0, fw0, fh fd, fh fg1, ⟨dx', kk ob'⟩, kk hi, kk hw, .nil, by rw [upd_ne ngd.symm]; exact upd_same, fun x hx => (by simp at hx), upd_same, (ne_of_none hi fd), (ne_of_none hw fg1), List.nodup_nil, M19.start⟩
    generalize upd (upd H1 d (.dK [])) g (.lst []) = H2 at *
    walk_at "go"
    refine Wrap.mk (for_it walk_upto (OUT A.c_Rounds a H) ⟨x, i, w, d, g, 0, 0, [], [], [], [], none, none, none, none, none, none, rfl, L0, by omega, by simp⟩ (fun _ _ _ _ _ => trivial) ?_ ?_)
    · rintro kk' y σ H3 H4 hkk ⟨p, i, w, d, g, now, last, own, ws, gone, ts, v5, v6, v7, v8, v9, v10, rfl, L, hla, hol⟩ ⟨rfl, rfl⟩
      have hk63 : kk' ≤ 60 := by omega
      have hS4 := L.s0.seq hS
      walk_at "go"
      intro q c s fq c0 s0 s1
      have L1 := L.else_ (q := q) (o := .lst [.int c, .int s]) (L.s0.free fq) (fun u e => by rw [fq] at e; cases e) (ne_of_none L.hw fq).symm (ne_of_none L.hg fq).symm (fun x hx => ne_of_none (L.ho x hx).1 fq)
      have Z1 : PQ H (upd H4 q (.lst [.int c, .int s])) q w g own := ⟨L.s0.free fq, ⟨c, s, upd_same, c0, s0, s1⟩, (ne_of_none L.hw fq).symm, (ne_of_none L.hg fq).symm, fun x hx => ne_of_none (L.ho x hx).1 fq⟩
      generalize upd H4 q (.lst [.int c, .int s]) = H5 at *
      walk_at "go"
      refine Wrap.mk (for_it walk_upto (INN A.c_Rounds a H kk') ⟨p, i, w, d, g, q, now, last, own, ws, gone, ts, _, v7, v8, v9, v10, rfl, L1, Z1, hla, hol⟩ (fun _ _ _ _ _ => trivial) ?_ ?_)
      · clear L L1 Z1 hla hol
        rintro t y σ H3 H4 htt ⟨p, i, w, d, g, q, now, last, own, ws, gone, ts, v5, v7, v8, v9, v10, rfl, L, Z, hla, hol⟩ ⟨rfl, rfl⟩
        have ht3 : t < 3 := htt
        have za := Z.at_
        walk_at "go"
        intro r c s r0 r1 c0 s0 s1
        have L1 := L.drawn Z c s
        have Z1 := Z.drawn (c := c) (s := s) c0 s0 s1
        generalize upd H4 q (.lst [.int c, .int s]) = H5 at *
        obtain ⟨ch, hch, _⟩ := atI_some (xs := ("abc" : Str).cps.toList) r0 (by rw [abc_len]; exact r1)
        have hok := abc_ok
        have za1 := Z1.at_
        walk_at "go"
        intro r2 c s r20 r21 c0 s0 s1
        have L2 := L1.drawn Z1 c s
        have Z2 := Z1.drawn (c := c) (s := s) c0 s0 s1
        generalize upd H5 q (.lst [.int c, .int s]) = H6 at *
        clear L Z L1 Z1 hch
        generalize (⟨#[ch]⟩ : Str) = nm
        have ro := L2.hp; have hi2 := L2.hi; have hd2 := L2.hd; have hw2 := L2.hw
        obtain ⟨dx2, hp2⟩ := L2.hp
        have z0 := M19.MInv.z L2.mi
        have dg : DGet H6 d (.str nm) (valV (ownK own) (Sum.inr nm)) := DGet.k (k := Sum.inr nm) hd2
        have hil : (insK own).length < 1000 := by unfold insK; rw [List.length_map]; omega
        have hol2 : (ownK own).length < sizeLine := small1000 (by unfold ownK; rw [List.length_map]; omega)
        have hrg : RgOk last (last + 9) := RgOk.of_le z0 (by omega) (by omega) (by omega)
        have f1 : (rf now i w).lookup ("enter" : Str) = none := rf_no _ _ _ (by decide +kernel) (by decide +kernel) (by decide +kernel)
        have f2 : (rf now i w).lookup ("leave" : Str) = none := rf_no _ _ _ (by decide +kernel) (by decide +kernel) (by decide +kernel)
        have f3 : (rf now i w).lookup ("wait" : Str) = none := rf_no _ _ _ (by decide +kernel) (by decide +kernel) (by decide +kernel)
        dsimp only [gName]
        refine ifS (decide (r2 = 0) && !(valV (ownK own) (Sum.inr nm)).isSome) (fun Q' hq => ?_) (fun c => ?_) (fun c0 => ?_)
        · walk_at "go"
          rw [← dec_v] at hq
          refine andQ hq fun c hq => ?_
          walk_at "go"
          exact hq
        · have hv : valV (ownK own) (Sum.inr nm) = none := by
            cases e : valV (ownK own) (Sum.inr nm) with
            | none => rfl
            | some v => rw [e] at c; simp at c
          have hs := ownK_none hv
          have hvi : valV (insK own) (Sum.inr nm) = none := valV_of_not (by rw [insK_keys]; exact not_key hs)
          walk_at "go"
          intro b hb
          obtain ⟨nbi, hb1⟩ := un_upd hb
          have hd3 : upd (upd H6 i (.dK (putK (insK own) (Sum.inr nm) (.int now)))) b (.lst (rgV last (last + 9))) d = some (.dK (ownK own)) := by
            rw [upd_ne (ne_of_none hd2 hb1), upd_ne L2.nid.symm]; exact hd2
          have dp := DPut.k (k := Sum.inr nm) (v := .ref b) hd3 hol2
          have dp : DPut _ d (.str nm) (.ref b) _ := dp
          walk_at "go"
          refine ⟨p, i, w, d, g, q, now, last, _, ws, gone, ts, v5, some (.int (t : Nat)), some (.str nm), some (.int r2), v10, rfl, L2.enter hs hb1 rfl rfl, Z2.keep ?_ Z2.nw ?_, by omega, by rw [List.length_append, List.length_singleton]; omega⟩
          · rw [upd_ne (Z2.ne hd2 (by intro _ z; cases z)), upd_ne (by obtain ⟨_, _, e, _⟩ := Z2.at_; exact ne_of_none e hb1), upd_ne (Z2.ne hi2 (by intro _ z; cases z))]
          · intro x hx
            rcases List.mem_append.mp hx with hx | hx
            · exact Z2.no x hx
            · obtain rfl := List.mem_singleton.mp hx
              obtain ⟨_, _, e, _⟩ := Z2.at_
              exact (ne_of_none e hb1).symm
        refine ifS (decide (r2 = 1) && (valV (ownK own) (Sum.inr nm)).isSome) (fun Q' hq => ?_) (fun c => ?_) (fun c1 => ?_)
        · walk_at "go"
          rw [← dec_v] at hq
          refine andQ hq fun c hq => ?_
          walk_at "go"
          exact hq
        · cases hv : valV (ownK own) (Sum.inr nm) with
          | none => rw [hv] at c; simp at c
          | some v =>
            obtain ⟨je, e, he, rfl⟩ := key_of (ownK_some hv)
            have hvi := insK_at L2.nd he
            have ek : V.str e.1.1 = kV (Sum.inr e.1.1) := rfl
            have hi3 : upd H6 d (.dK (dropK (ownK own) (Sum.inr e.1.1))) i = some (.dK (insK own)) := by rw [upd_ne L2.nid]; exact hi2
            have ro3 : RObj A.c_Rounds (upd H6 d (.dK (dropK (ownK own) (Sum.inr e.1.1)))) p now i w := ⟨dx2, by rw [upd_ne (ne_of hp2 hd2 (by intro z; cases z))]; exact hp2⟩
            have hp3 : upd H6 d (.dK (dropK (ownK own) (Sum.inr e.1.1))) p = some (.ins A.c_Rounds dx2 (rf now i w)) := by rw [upd_ne (ne_of hp2 hd2 (by intro z; cases z))]; exact hp2
            walk_at "go"
            refine ⟨p, i, w, d, g, q, now, last, _, ws, gone, ts, v5, some (.int (t : Nat)), some (.str e.1.1), some (.int r2), v10, rfl, L2.leave rfl rfl, Z2.keep ?_ Z2.nw ?_, by omega, Nat.le_trans (List.length_filter_le _ _) (by omega)⟩
            · rw [upd_ne (Z2.ne hi2 (by intro _ z; cases z)), upd_ne (Z2.ne hd2 (by intro _ z; cases z))]
            · exact fun x hx => Z2.no x (List.mem_filter.mp hx).1
        refine ifS (decide (r2 < 4)) (fun Q' hq => ?_) (fun c => ?_) (fun c2 => ?_)
        · walk_at "go"
          exact hq
        · walk_at "go"
          refine ⟨by rw [List.length_map, L2.hr.length]; have := ws_short L2.mi; omega, fun tt ht => ?_⟩
          obtain ⟨B, hBe⟩ : ∃ B : Hp, B = upd (upd H6 tt (.tup [.int last, .int now])) w (.lst (ts.map V.ref ++ [.ref tt])) := ⟨_, rfl⟩
          have hB : ∀ {b u}, H6 b = some u → b ≠ w → B b = some u := fun {b u} e n => by rw [hBe, upd_ne n, upd_ne (ne_of_none e ht)]; exact e
          have kB : ∀ b u, upd (upd H6 tt (.tup [.int last, .int now])) w (.lst (ts.map V.ref ++ [.ref tt])) b = some u → B b = some u := fun b u e => by rw [hBe]; exact e
          rw [← hBe]
          have hd3 := hB hd2 (ne_of hd2 hw2 (by intro z; cases z))
          have hq3 : ∃ cs, H6 q = some (.lst cs) := by obtain ⟨_, _, e, _⟩ := Z2.at_; exact ⟨_, e⟩
          obtain ⟨cs, hq3⟩ := hq3
          walk_at "go"
          intro l hl
          have hkk : ((ownK own).map fun kv => kV kv.1) = own.map fun x => V.str x.1.1 := by unfold ownK; rw [List.map_map]; rfl
          rw [hkk]
          walk_at "go"
          refine Wrap.mk (for_it (walk_list (xs := own.map fun x => V.str x.1.1)) (fun j σ H7 => Wrap (∃ (own2 : List Ent) (v10 : Option V), σ = [some (.ref a), some (.ref p), some (.ref d), some (.ref g), some (.int last), v5, some (.ref q), some (.int (t : Nat)), some (.str nm), some (.int r2), v10] ∧
            H7 d = some (.dK (ownK own2)) ∧ own2.map (·.1.1) = own.map (·.1.1) ∧ own2.map (·.2) = own.map (·.2) ∧ (∀ b u, upd B l (.lst (own.map fun x => V.str x.1.1)) b = some u → b ≠ d → H7 b = some u) ∧
            ∀ n x, own2[n]? = some x → H7 x.1.2 = some (.lst ((M19.zint x.2.2 (if n < j then last + 1 + 9 else last + 9)).map V.int)) ∧ x.1.2 ≠ w ∧ x.1.2 ≠ g ∧ x.1.2 ≠ q))
            ⟨own, v10, rfl, by rw [upd_ne (ne_of_none hd3 hl)]; exact hd3, rfl, rfl, fun b u e _ => e, fun n x hx => ?_⟩ (fun j σ H7 _ q => ?_) ?_ ?_)
          · have hm := List.mem_of_getElem? hx
            obtain ⟨h1, h2, h3⟩ := L2.ho x hm
            rw [if_neg (by omega)]
            have h4 := hB h1 h2
            exact ⟨by rw [upd_ne (ne_of_none h4 hl)]; exact h4, h2, h3, Z2.no x hm⟩
          · obtain ⟨_, _, _, _, _, _, k7, _⟩ := q
            exact SqL.of (k7 _ _ upd_same (ne_of_none hd3 hl).symm)
          · rintro j y σ H7 H8 hj ⟨own2, v10, rfl, hd7, hn7, hs7, k7, ho7⟩ ⟨rfl, hy⟩
            rw [List.getElem?_map] at hy
            cases hjo : own[j]? with
            | none => rw [hjo] at hy; cases hy
            | some e =>
              rw [hjo] at hy
              obtain rfl : V.str e.1.1 = y := Option.some.inj hy
              obtain ⟨e2, he2, hn2, hs2⟩ : ∃ e2, own2[j]? = some e2 ∧ e2.1.1 = e.1.1 ∧ e2.2 = e.2 := by
                have q1 := congrArg (·[j]?) hn7
                have q2 := congrArg (·[j]?) hs7
                simp only [List.getElem?_map, hjo] at q1 q2
                cases h2 : own2[j]? with
                | none => rw [h2] at q1; cases q1
                | some e2 =>
                  rw [h2] at q1 q2
                  exact ⟨e2, rfl, Option.some.inj q1, Option.some.inj q2⟩
              have nd2 : (own2.map (·.1.1)).Nodup := by rw [hn7]; exact L2.nd
              obtain ⟨ha7, hw7, hg7, hq7⟩ := ho7 j e2 he2
              rw [if_neg (Nat.lt_irrefl _)] at ha7
              have dg7 : DGet H8 d (.str e.1.1) (some (.ref e2.1.2)) := by
                have q := DGet.k (k := Sum.inr e2.1.1) hd7
                rw [ownK_at nd2 he2, hn2] at q
                exact q
              obtain ⟨_, _, hle, hge⟩ := L2.mi.r e (List.mem_of_getElem? hjo)
              have hlen : ((M19.zint e2.2.2 (last + 9)).map V.int).length + 1 ≤ sizeLine := by
                rw [List.length_map, M19.zint_len, hs2]
                exact Nat.le_trans (by omega : _ ≤ 1000) (by decide)
              have hol7 : (ownK own2).length < sizeLine := small1000 (by
                have q := congrArg List.length hn7
                rw [List.length_map, List.length_map] at q
                unfold ownK; rw [List.length_map]; omega)
              walk_at "go"
              intro f1 hf1
              walk_at "go"
              intro f2 hf2
              obtain ⟨nf21, hf20⟩ := un_upd hf2
              have hd8 : upd (upd H8 f1 (.lst [.int (last + 9)])) f2 (.lst ((M19.zint e2.2.2 (last + 9)).map V.int ++ [.int (last + 9)])) d = some (.dK (ownK own2)) := by
                rw [upd_ne (ne_of_none hd7 hf20), upd_ne (ne_of_none hd7 hf1)]; exact hd7
              have dp := DPut.k (k := Sum.inr e.1.1) (v := .ref f2) hd8 hol7
              have dp : DPut _ d (.str e.1.1) (.ref f2) _ := dp
              walk_at "go"
              have ep : putK (ownK own2) (Sum.inr e.1.1) (.ref f2) = ownK (own2.set j ((e2.1.1, f2), e2.2)) := by rw [← hn2]; exact ownK_set f2 nd2 he2
              have kf : ∀ b u, H8 b = some u → b ≠ d → upd (upd (upd H8 f1 (.lst [.int (last + 9)])) f2 (.lst ((M19.zint e2.2.2 (last + 9)).map V.int ++ [.int (last + 9)]))) d (.dK (putK (ownK own2) (Sum.inr e.1.1) (.ref f2))) b = some u := fun b u eb n => by
                rw [upd_ne n, upd_ne (ne_of_none eb hf20), upd_ne (ne_of_none eb hf1)]; exact eb
              refine ⟨own2.set j ((e2.1.1, f2), e2.2), some (.str e.1.1), rfl, by rw [upd_same, ep], ?_, ?_, fun b u eb n => kf b u (k7 b u eb n) n, fun n x hx => ?_⟩
              · exact (map_set_same (y := ((e2.1.1, f2), e2.2)) (f := fun z : Ent => z.1.1) he2 rfl).trans hn7
              · exact (map_set_same (y := ((e2.1.1, f2), e2.2)) (f := fun z : Ent => z.2) he2 rfl).trans hs7
              · rw [List.getElem?_set] at hx
                by_cases hjn : j = n
                · subst hjn
                  rw [if_pos rfl, if_pos (List.getElem?_eq_some_iff.mp he2).1] at hx
                  obtain rfl := Option.some.inj hx
                  have hBw : B w = some (.lst (ts.map V.ref ++ [.ref tt])) := by rw [hBe]; exact upd_same
                  have kl : ∀ {b u}, B b = some u → b ≠ d → H8 b = some u := fun {b u} eb n => k7 b u (by rw [upd_ne (ne_of_none eb hl)]; exact eb) n
                  have hgB := hB L2.hg L2.nwg.symm
                  refine ⟨?_, (ne_of_none (kl hBw (ne_of hBw hd3 (by intro z; cases z))) hf20).symm, (ne_of_none (kl hgB (ne_of hgB hd3 (by intro z; cases z))) hf20).symm, (ne_of_none (kl (hB hq3 Z2.nw) (ne_of hq3 hd2 (by intro z; cases z))) hf20).symm⟩
                  rw [if_pos (Nat.lt_succ_self _), upd_ne (ne_of_none hd7 hf20).symm, upd_same]
                  have ez : M19.zint e2.2.2 (last + 1 + 9) = M19.zint e2.2.2 (last + 9) ++ [last + 9] := by
                    rw [← M19.zint_snoc (by rw [hs2]; omega)]; congr 1; omega
                  rw [ez, List.map_append]; rfl
                · rw [if_neg hjn] at hx
                  obtain ⟨h1, h2, h3, h4⟩ := ho7 n x hx
                  have ec : (if n < j + 1 then last + 1 + 9 else last + 9) = if n < j then last + 1 + 9 else last + 9 := by split <;> split <;> omega
                  rw [ec]
                  exact ⟨kf _ _ h1 (ne_of h1 hd7 (by intro z; cases z)), h2, h3, h4⟩
          · rintro σ H7 ⟨own2, v10, rfl, hd7, hn7, hs7, k7, ho7⟩
            rw [List.length_map] at ho7
            have hdB : ∀ b u, B b = some u → b ≠ d → H7 b = some u := fun b u e n => k7 b u (by rw [upd_ne (ne_of_none e hl)]; exact e) n
            have hlo : own2.length = own.length := by
              have q := congrArg List.length hn7
              rwa [List.length_map, List.length_map] at q
            have W := L2.waited ht hn7 hs7 (fun b u e n => hdB b u (kB b u e) n) hd7 (fun x hx => by
              obtain ⟨n, hn, rfl⟩ := List.mem_iff_getElem.mp hx
              have q := ho7 n own2[n] (List.getElem?_eq_getElem hn)
              rw [if_pos (by omega)] at q
              exact ⟨q.1, q.2.1, q.2.2.1⟩)
            have Z3 : PQ H H7 q w g own2 := Z2.keep (by
              have := hdB q _ (hB hq3 Z2.nw) (ne_of hq3 hd2 (by intro z; cases z))
              rw [this, hq3]) Z2.nw (fun x hx => by
              obtain ⟨n, hn, rfl⟩ := List.mem_iff_getElem.mp hx
              exact (ho7 n own2[n] (List.getElem?_eq_getElem hn)).2.2.2)
            walk_at "go"
            exact ⟨p, i, w, d, g, q, now, last + 1, own2, _, gone, _, v5, some (.int (t : Nat)), some (.str nm), some (.int r2), v10, rfl, W, Z3, by omega, by omega⟩
        · walk_at "go"
          intro H7 w' ts' fw' L3 k3
          have hq3 : ∃ cs, H6 q = some (.lst cs) := by obtain ⟨_, _, e, _⟩ := Z2.at_; exact ⟨_, e⟩
          obtain ⟨cs, hq3⟩ := hq3
          have Z3 : PQ H H7 q w' g own := Z2.keep (by
            have := k3 q _ hq3 (Z2.ne hp2 (by intro l z; cases z)) Z2.ng
            rw [this, hq3]) (ne_of_none hq3 fw') Z2.no
          walk_at "go"
          walk_at "x_else"
          exact ⟨p, i, w', d, g, q, _, last, own, _, _, _, v5, some (.int (t : Nat)), some (.str nm), some (.int r2), v10, rfl, L3, Z3, by omega, by omega⟩
      · rintro σ H6 ⟨p, i, w, d, g, q, now, last, own, ws, gone, ts, v5, v7, v8, v9, v10, rfl, L, Z, hla, hol⟩
        exact ⟨p, i, w, d, g, now, last, own, ws, gone, ts, _, _, _, _, _, _, rfl, L, by omega, by omega⟩
    · rintro σ H3 ⟨p, i, w, d, g, now, last, own, ws, gone, ts, v5, v6, v7, v8, v9, v10, rfl, L, hla, hol⟩
      have hl60 : last ≤ 180 := by omega
      walk_at "go"
      intro H4 L4
      walk_at "go"
      intro H5 w5 ts5 fw5 L5 k5
      dsimp only [gName]
      walk_at "go"
      intro H6 w6 ts6 fw6 L6 k6
      have n1 : ∀ m : Int, M19.nextNow m ([] : List Ent) = m + 1 := fun m => rfl
      rw [n1, n1] at L6
      rw [L4.mi.emptied] at L6
      have hg6 := L6.hg
      have eg := L6.mi.g
      rw [List.map_nil, List.append_nil] at eg
      rw [eg] at hg6
      have hts : ts6 = [] := by have := L6.hr; cases ts6 with | nil => rfl | cons _ _ => exact (nomatch this)
      have hw6 := L6.hw
      rw [hts, List.map_nil] at hw6
      have hi6 := L6.hi
      have hi6 : H6 i = some (.dK []) := hi6
      have hz := M19.MInv.z L6.mi
      have hrg : RgOk 0 last := RgOk.of_le (by omega) (by omega) (by omega) (by omega)
      obtain ⟨dx6, hp6⟩ := L6.hp
      have f1 : ∀ m : Int, (rf m i w6).lookup ("waiting" : Str) = none := fun m => rf_no _ _ _ (by decide +kernel) (by decide +kernel) (by decide +kernel)
      have f2 : ∀ m : Int, (rf m i w6).lookup ("inside" : Str) = none := fun m => rf_no _ _ _ (by decide +kernel) (by decide +kernel) (by decide +kernel)
      generalize now + 1 + 1 = m at *
      have f3 := f1 m
      have f4 := f2 m
      walk_at "go"
      intro z hz0
      have d1 : Dp K (upd H6 z (.lst (rgV 0 last))) (.ref g) (.list ((M19.zint 0 last).map PyData.int)) := .lst (SqL.of (by rw [upd_ne (ne_of_none hg6 hz0)]; exact hg6)) (dp_ints _)
      have d2 : Dp K (upd H6 z (.lst (rgV 0 last))) (.ref z) (.list ((M19.zint 0 last).map PyData.int)) := .lst (SqL.of (by rw [upd_same, rgV_zint])) (dp_ints _)
      refine ⟨_, _, d1, d2, shaped_ints _, shaped_ints _, ?_⟩
      rw [SeqAt.eqv_refl _ (can_ints _)]
      have ro7 : RObj A.c_Rounds (upd H6 z (.lst (rgV 0 last))) p m i w6 := ⟨dx6, by rw [upd_ne (ne_of_none hp6 hz0)]; exact hp6⟩
      have hw7 : upd H6 z (.lst (rgV 0 last)) w6 = some (.lst []) := by rw [upd_ne (ne_of_none hw6 hz0)]; exact hw6
      have hi7 : upd H6 z (.lst (rgV 0 last)) i = some (.dK []) := by rw [upd_ne (ne_of_none hi6 hz0)]; exact hi6
      obtain ⟨dx7, hp7⟩ := id ro7
      generalize upd H6 z (.lst (rgV 0 last)) = H7 at *
      walk_at "go"
      intro z1 hz1
      walk_at "go"
      intro z2 hz2
      obtain ⟨n12, hz20⟩ := un_upd hz2
      have d3 : Dp K (upd (upd H7 z1 (.lst [])) z2 (.lst [])) (.ref z1) (.list []) := .lst (xs := []) (SqL.of (by rw [upd_ne n12.symm]; exact upd_same)) .nil
      have d4 : Dp K (upd (upd H7 z1 (.lst [])) z2 (.lst [])) (.ref z2) (.list []) := .lst (xs := []) (SqL.of upd_same) .nil
      refine ⟨_, _, d3, d4, rfl, rfl, ?_⟩
      have kz : ∀ {b : Addr} {u : HO}, H7 b = some u → upd (upd H7 z1 (.lst [])) z2 (.lst []) b = some u := fun {b u} e => by rw [upd_ne (ne_of_none e hz20), upd_ne (ne_of_none e hz1)]; exact e
      have ro8 : RObj A.c_Rounds (upd (upd H7 z1 (.lst [])) z2 (.lst [])) p m i w6 := ⟨dx7, kz hp7⟩
      have hi8 := kz hi7
      have hp8 := kz hp7
      generalize upd (upd H7 z1 (.lst [])) z2 (.lst []) = H8 at *
      walk_at "go"
      intro z3 hz3
      have hi9 : upd H8 z3 (.dK []) z3 = some (.dK []) := upd_same
      intro z4 hz4
      obtain ⟨n34, _⟩ := un_upd hz4
      exact ⟨z3, z4, [], rfl, rfl, by rw [upd_ne n34.symm]; exact upd_same, upd_same, List.nodup_nil, fun _ h => (by simp at h), k _⟩

end
theorem all_mk {l : PySem.W.OpenLaw} {w : World} {K : PySem.W.Frag} {h : Heap} {mg : Str → Option Value} {fa : Addr} (X : K.In h) (G : h.Ns mainGlobals mg) (hfa : mg "law" = some (.ref fa))
    {a_Rounds_init a_Rounds_enter a_Rounds_leave a_Rounds_wait a_Rounds_sweep a_Rounds_inside a_Rounds_waiting a_pool a_take a_swept a_out a_law c_Rounds : Addr} {od0 an0 od1 an1 od2 an2 od3 an3 od4 an4 od5 an5 od6 an6 od7 an7 od8 an8 od9 an9 od10 an10 od11 an11 : Option Addr} {sl0 sl1 sl2 sl3 sl4 sl5 sl6 sl7 sl8 sl9 sl10 sl11 : Array (Option Value)} {oc0 kV0 dc0 pm0 cd0 ct0 oc1 kV1 dc1 pm1 cd1 ct1 oc2 kV2 dc2 pm2 cd2 ct2 oc3 kV3 dc3 pm3 cd3 ct3 oc4 kV4 dc4 pm4 cd4 ct4 oc5 kV5 dc5 pm5 cd5 ct5 oc6 kV6 dc6 pm6 cd6 ct6 oc7 kV7 dc7 pm7 cd7 ct7 oc8 kV8 dc8 pm8 cd8 ct8 oc9 kV9 dc9 pm9 cd9 ct9 oc10 kV10 dc10 pm10 cd10 ct10 oc11 kV11 dc11 pm11 cd11 ct11 : Value} {tk_BEHIND : Tok}
    (aC0 : PySem.W.nsIn K mainGlobals "Rounds" = some (some (.ref c_Rounds)))
    (a0 : PySem.W.findIn K (.ref c_Rounds) "__init__" = some (some (.ref a_Rounds_init)))
    (i0 : PySem.W.isFn K (.ref a_Rounds_init) = true)
    (l0 : K.lookup a_Rounds_init = some ⟨oc0, od0, .func (PySem.W.fnOf "__init__" "Rounds.__init__" (defArgs s_Rounds_init) (defBody s_Rounds_init) (defScope s_Rounds_init) .none kV0 dc0 pm0 an0 cd0 ct0), sl0⟩)
    (c0 : PySem.W.codeIn K cd0 "Rounds.__init__" = true)
    (k0 : PySem.W.keepIn K (.ref a_Rounds_init) = true)
    (a1 : PySem.W.findIn K (.ref c_Rounds) "enter" = some (some (.ref a_Rounds_enter)))
    (i1 : PySem.W.isFn K (.ref a_Rounds_enter) = true)
    (l1 : K.lookup a_Rounds_enter = some ⟨oc1, od1, .func (PySem.W.fnOf "enter" "Rounds.enter" (defArgs s_Rounds_enter) (defBody s_Rounds_enter) (defScope s_Rounds_enter) .none kV1 dc1 pm1 an1 cd1 ct1), sl1⟩)
    (c1 : PySem.W.codeIn K cd1 "Rounds.enter" = true)
    (k1 : PySem.W.keepIn K (.ref a_Rounds_enter) = true)
    (a2 : PySem.W.findIn K (.ref c_Rounds) "leave" = some (some (.ref a_Rounds_leave)))
    (i2 : PySem.W.isFn K (.ref a_Rounds_leave) = true)
    (l2 : K.lookup a_Rounds_leave = some ⟨oc2, od2, .func (PySem.W.fnOf "leave" "Rounds.leave" (defArgs s_Rounds_leave) (defBody s_Rounds_leave) (defScope s_Rounds_leave) .none kV2 dc2 pm2 an2 cd2 ct2), sl2⟩)
    (c2 : PySem.W.codeIn K cd2 "Rounds.leave" = true)
    (k2 : PySem.W.keepIn K (.ref a_Rounds_leave) = true)
    (a3 : PySem.W.findIn K (.ref c_Rounds) "wait" = some (some (.ref a_Rounds_wait)))
    (i3 : PySem.W.isFn K (.ref a_Rounds_wait) = true)
    (l3 : K.lookup a_Rounds_wait = some ⟨oc3, od3, .func (PySem.W.fnOf "wait" "Rounds.wait" (defArgs s_Rounds_wait) (defBody s_Rounds_wait) (defScope s_Rounds_wait) .none kV3 dc3 pm3 an3 cd3 ct3), sl3⟩)
    (c3 : PySem.W.codeIn K cd3 "Rounds.wait" = true)
    (k3 : PySem.W.keepIn K (.ref a_Rounds_wait) = true)
    (a4 : PySem.W.findIn K (.ref c_Rounds) "sweep" = some (some (.ref a_Rounds_sweep)))
    (i4 : PySem.W.isFn K (.ref a_Rounds_sweep) = true)
    (l4 : K.lookup a_Rounds_sweep = some ⟨oc4, od4, .func (PySem.W.fnOf "sweep" "Rounds.sweep" (defArgs s_Rounds_sweep) (defBody s_Rounds_sweep) (defScope s_Rounds_sweep) .none kV4 dc4 pm4 an4 cd4 ct4), sl4⟩)
    (c4 : PySem.W.codeIn K cd4 "Rounds.sweep" = true)
    (k4 : PySem.W.keepIn K (.ref a_Rounds_sweep) = true)
    (a5 : PySem.W.findIn K (.ref c_Rounds) "inside" = some (some (.ref a_Rounds_inside)))
    (i5 : PySem.W.isFn K (.ref a_Rounds_inside) = true)
    (l5 : K.lookup a_Rounds_inside = some ⟨oc5, od5, .func (PySem.W.fnOf "inside" "Rounds.inside" (defArgs s_Rounds_inside) (defBody s_Rounds_inside) (defScope s_Rounds_inside) .none kV5 dc5 pm5 an5 cd5 ct5), sl5⟩)
    (c5 : PySem.W.codeIn K cd5 "Rounds.inside" = true)
    (k5 : PySem.W.keepIn K (.ref a_Rounds_inside) = true)
    (a6 : PySem.W.findIn K (.ref c_Rounds) "waiting" = some (some (.ref a_Rounds_waiting)))
    (i6 : PySem.W.isFn K (.ref a_Rounds_waiting) = true)
    (l6 : K.lookup a_Rounds_waiting = some ⟨oc6, od6, .func (PySem.W.fnOf "waiting" "Rounds.waiting" (defArgs s_Rounds_waiting) (defBody s_Rounds_waiting) (defScope s_Rounds_waiting) .none kV6 dc6 pm6 an6 cd6 ct6), sl6⟩)
    (c6 : PySem.W.codeIn K cd6 "Rounds.waiting" = true)
    (k6 : PySem.W.keepIn K (.ref a_Rounds_waiting) = true)
    (a7 : PySem.W.nsIn K mainGlobals "_law_pool" = some (some (.ref a_pool)))
    (l7 : K.lookup a_pool = some ⟨oc7, od7, .func (PySem.W.fnOf "_law_pool" "_law_pool" (defArgs s_pool) (defBody s_pool) (defScope s_pool) .none kV7 dc7 pm7 an7 cd7 ct7), sl7⟩)
    (c7 : PySem.W.codeIn K cd7 "_law_pool" = true)
    (k7 : PySem.W.keepIn K (.ref a_pool) = true)
    (a8 : PySem.W.nsIn K mainGlobals "_law_take" = some (some (.ref a_take)))
    (l8 : K.lookup a_take = some ⟨oc8, od8, .func (PySem.W.fnOf "_law_take" "_law_take" (defArgs s_take) (defBody s_take) (defScope s_take) .none kV8 dc8 pm8 an8 cd8 ct8), sl8⟩)
    (c8 : PySem.W.codeIn K cd8 "_law_take" = true)
    (k8 : PySem.W.keepIn K (.ref a_take) = true)
    (a9 : PySem.W.nsIn K mainGlobals "_law_swept" = some (some (.ref a_swept)))
    (l9 : K.lookup a_swept = some ⟨oc9, od9, .func (PySem.W.fnOf "_law_swept" "_law_swept" (defArgs s_swept) (defBody s_swept) (defScope s_swept) .none kV9 dc9 pm9 an9 cd9 ct9), sl9⟩)
    (c9 : PySem.W.codeIn K cd9 "_law_swept" = true)
    (k9 : PySem.W.keepIn K (.ref a_swept) = true)
    (a10 : PySem.W.nsIn K mainGlobals "_law_out" = some (some (.ref a_out)))
    (l10 : K.lookup a_out = some ⟨oc10, od10, .func (PySem.W.fnOf "_law_out" "_law_out" (defArgs s_out) (defBody s_out) (defScope s_out) .none kV10 dc10 pm10 an10 cd10 ct10), sl10⟩)
    (c10 : PySem.W.codeIn K cd10 "_law_out" = true)
    (k10 : PySem.W.keepIn K (.ref a_out) = true)
    (a11 : PySem.W.nsIn K mainGlobals "law" = some (some (.ref a_law)))
    (l11 : K.lookup a_law = some ⟨oc11, od11, .func (PySem.W.fnOf "law" "law" (defArgs s_law) (defBody s_law) (defScope s_law) .none kV11 dc11 pm11 an11 cd11 ct11), sl11⟩)
    (c11 : PySem.W.codeIn K cd11 "law" = true)
    (k11 : PySem.W.keepIn K (.ref a_law) = true)
    (pg0 : PySem.W.plainGet K c_Rounds Str.empty = true)
    (hd0 : PySem.W.hasDictIn K c_Rounds = true)
    (po0 : PySem.W.plainOver K c_Rounds = true)
    (sa0 : PySem.W.findIn K (.ref c_Rounds) "__setattr__" = some (some (.builtin "object.__setattr__")))
    (mk0 : PySem.W.makesIn K c_Rounds = true)
    (kc0 : PySem.W.keepIn K (.ref c_Rounds) = true)
    (no0_own_now : PySem.W.findIn K (.ref c_Rounds) "own_now" = some none)
    (no0_own_inside : PySem.W.findIn K (.ref c_Rounds) "own_inside" = some none)
    (no0_own_waiting : PySem.W.findIn K (.ref c_Rounds) "own_waiting" = some none)
    (z_len : PySem.W.nsIn K mainGlobals "len" = some none)
    (z_all : PySem.W.nsIn K mainGlobals "all" = some none)
    (z_dict : PySem.W.nsIn K mainGlobals "dict" = some none)
    (z_list : PySem.W.nsIn K mainGlobals "list" = some none)
    (z_range : PySem.W.nsIn K mainGlobals "range" = some none)
    (z_max : PySem.W.nsIn K mainGlobals "max" = some none)
    (z_min : PySem.W.nsIn K mainGlobals "min" = some none)
    (v_BEHIND : PySem.W.nsIn K mainGlobals "BEHIND" = some (some (.int 2 tk_BEHIND))) :
    ∃ fd : FuncData, (∀ (s : Shared) (v : Value), BindsTo s fd ⟨[v], []⟩ [("_law_script", v)]) ∧ ∀ base : Heap, K.In base → base.Ns mainGlobals mg → FnOk l.prog w K mg base CX0 4 fa fd ["_law_script"] (spLaw K) := by
  have e := hfa.symm.trans (PySem.W.mg_of X G a11)
  cases e
  have F0 := fun_mk (st := s_Rounds_init) l0 c0 k0
  have F1 := fun_mk (st := s_Rounds_enter) l1 c1 k1
  have F2 := fun_mk (st := s_Rounds_leave) l2 c2 k2
  have F3 := fun_mk (st := s_Rounds_wait) l3 c3 k3
  have F4 := fun_mk (st := s_Rounds_sweep) l4 c4 k4
  have F5 := fun_mk (st := s_Rounds_inside) l5 c5 k5
  have F6 := fun_mk (st := s_Rounds_waiting) l6 c6 k6
  have F7 := fun_mk (st := s_pool) l7 c7 k7
  have F8 := fun_mk (st := s_take) l8 c8 k8
  have F9 := fun_mk (st := s_swept) l9 c9 k9
  have F10 := fun_mk (st := s_out) l10 c10 k10
  have F11 := fun_mk (st := s_law) l11 c11 k11
  have b0 := F0.binds (ps := ["self"]) fun _ _ _ _ _ _ us hl => match us, hl with | [_], _ => rfl
  have b1 := F1.binds (ps := ["self", "name"]) fun _ _ _ _ _ _ us hl => match us, hl with | [_, _], _ => rfl
  have b2 := F2.binds (ps := ["self", "name"]) fun _ _ _ _ _ _ us hl => match us, hl with | [_, _], _ => rfl
  have b3 := F3.binds (ps := ["self", "thing"]) fun _ _ _ _ _ _ us hl => match us, hl with | [_, _], _ => rfl
  have b4 := F4.binds (ps := ["self"]) fun _ _ _ _ _ _ us hl => match us, hl with | [_], _ => rfl
  have b5 := F5.binds (ps := ["self"]) fun _ _ _ _ _ _ us hl => match us, hl with | [_], _ => rfl
  have b6 := F6.binds (ps := ["self"]) fun _ _ _ _ _ _ us hl => match us, hl with | [_], _ => rfl
  have b7 := F7.binds (ps := ["_law_script", "_law_k"]) fun _ _ _ _ _ _ us hl => match us, hl with | [_, _], _ => rfl
  have b8 := F8.binds (ps := ["_law_pool_here", "_law_many"]) fun _ _ _ _ _ _ us hl => match us, hl with | [_, _], _ => rfl
  have b9 := F9.binds (ps := ["_law_rings", "_law_gone", "_law_owned"]) fun _ _ _ _ _ _ us hl => match us, hl with | [_, _, _], _ => rfl
  have b10 := F10.binds (ps := ["_law_rings", "_law_owned"]) fun _ _ _ _ _ _ us hl => match us, hl with | [_, _], _ => rfl
  have b11 := F11.binds (ps := ["_law_script"]) fun _ _ _ _ _ _ us hl => match us, hl with | [_], _ => rfl
  let A : Adr := { a_Rounds_init := a_Rounds_init, a_Rounds_enter := a_Rounds_enter, a_Rounds_leave := a_Rounds_leave, a_Rounds_wait := a_Rounds_wait, a_Rounds_sweep := a_Rounds_sweep, a_Rounds_inside := a_Rounds_inside, a_Rounds_waiting := a_Rounds_waiting, a_pool := a_pool, a_take := a_take, a_swept := a_swept, a_out := a_out, a_law := fa, d_Rounds_init := PySem.W.fnOf "__init__" "Rounds.__init__" (defArgs s_Rounds_init) (defBody s_Rounds_init) (defScope s_Rounds_init) .none kV0 dc0 pm0 an0 cd0 ct0, d_Rounds_enter := PySem.W.fnOf "enter" "Rounds.enter" (defArgs s_Rounds_enter) (defBody s_Rounds_enter) (defScope s_Rounds_enter) .none kV1 dc1 pm1 an1 cd1 ct1, d_Rounds_leave := PySem.W.fnOf "leave" "Rounds.leave" (defArgs s_Rounds_leave) (defBody s_Rounds_leave) (defScope s_Rounds_leave) .none kV2 dc2 pm2 an2 cd2 ct2, d_Rounds_wait := PySem.W.fnOf "wait" "Rounds.wait" (defArgs s_Rounds_wait) (defBody s_Rounds_wait) (defScope s_Rounds_wait) .none kV3 dc3 pm3 an3 cd3 ct3, d_Rounds_sweep := PySem.W.fnOf "sweep" "Rounds.sweep" (defArgs s_Rounds_sweep) (defBody s_Rounds_sweep) (defScope s_Rounds_sweep) .none kV4 dc4 pm4 an4 cd4 ct4, d_Rounds_inside := PySem.W.fnOf "inside" "Rounds.inside" (defArgs s_Rounds_inside) (defBody s_Rounds_inside) (defScope s_Rounds_inside) .none kV5 dc5 pm5 an5 cd5 ct5, d_Rounds_waiting := PySem.W.fnOf "waiting" "Rounds.waiting" (defArgs s_Rounds_waiting) (defBody s_Rounds_waiting) (defScope s_Rounds_waiting) .none kV6 dc6 pm6 an6 cd6 ct6, d_pool := PySem.W.fnOf "_law_pool" "_law_pool" (defArgs s_pool) (defBody s_pool) (defScope s_pool) .none kV7 dc7 pm7 an7 cd7 ct7, d_take := PySem.W.fnOf "_law_take" "_law_take" (defArgs s_take) (defBody s_take) (defScope s_take) .none kV8 dc8 pm8 an8 cd8 ct8, d_swept := PySem.W.fnOf "_law_swept" "_law_swept" (defArgs s_swept) (defBody s_swept) (defScope s_swept) .none kV9 dc9 pm9 an9 cd9 ct9, d_out := PySem.W.fnOf "_law_out" "_law_out" (defArgs s_out) (defBody s_out) (defScope s_out) .none kV10 dc10 pm10 an10 cd10 ct10, d_law := PySem.W.fnOf "law" "law" (defArgs s_law) (defBody s_law) (defScope s_law) .none kV11 dc11 pm11 an11 cd11 ct11, c_Rounds := c_Rounds }
  have T : Txt K mg A := { F_Rounds_init := F0, b_Rounds_init := b0, mk_Rounds := ⟨mk0, a0, i0, kc0⟩, F_Rounds_enter := F1, b_Rounds_enter := b1, me_Rounds_enter := ⟨a1, i1, k1⟩, F_Rounds_leave := F2, b_Rounds_leave := b2, me_Rounds_leave := ⟨a2, i2, k2⟩, F_Rounds_wait := F3, b_Rounds_wait := b3, me_Rounds_wait := ⟨a3, i3, k3⟩, F_Rounds_sweep := F4, b_Rounds_sweep := b4, me_Rounds_sweep := ⟨a4, i4, k4⟩, F_Rounds_inside := F5, b_Rounds_inside := b5, me_Rounds_inside := ⟨a5, i5, k5⟩, F_Rounds_waiting := F6, b_Rounds_waiting := b6, me_Rounds_waiting := ⟨a6, i6, k6⟩, F_pool := F7, b_pool := b7, m_pool := PySem.W.mg_of X G a7, F_take := F8, b_take := b8, m_take := PySem.W.mg_of X G a8, F_swept := F9, b_swept := b9, m_swept := PySem.W.mg_of X G a9, F_out := F10, b_out := b10, m_out := PySem.W.mg_of X G a10, F_law := F11, b_law := b11, m_law := PySem.W.mg_of X G a11, cl_Rounds := ⟨pg0, hd0, po0, sa0⟩, mg_Rounds := PySem.W.mg_of X G aC0, no_Rounds_own_now := no0_own_now, no_Rounds_own_inside := no0_own_inside, no_Rounds_own_waiting := no0_own_waiting, n_len := PySem.W.mg_none_of X G z_len, n_all := PySem.W.mg_none_of X G z_all, n_dict := PySem.W.mg_none_of X G z_dict, n_list := PySem.W.mg_none_of X G z_list, n_range := PySem.W.mg_none_of X G z_range, n_max := PySem.W.mg_none_of X G z_max, n_min := PySem.W.mg_none_of X G z_min, v_BEHIND := ⟨_, PySem.W.mg_of X G v_BEHIND⟩ }
  exact ⟨A.d_law, fun s v => .of_eq rfl, fun base _ _ => ok_law T⟩
theorem walk {l : PySem.W.OpenLaw} {q : Program} {loose : List Str} {XP : (Str → Option Value) → Heap → Prop} {YP : World → Heap → Prop} {d : DefRec} {K : Params → PySem.W.Frag} (hn : l.most = some 63) (hdf : d.params.defaults = [])
    (hY : ∀ (w : World) (h : Heap), YP w h → (K w.params).In h)
    (F : ∀ (w : World) (mg : Str → Option Value) (fa : Addr) (h : Heap), (K w.params).In h → h.Ns mainGlobals mg → mg d.name = some (.ref fa) →
      ∃ fd : FuncData, (∀ (s : Shared) (u : Value), BindsTo s fd ⟨[u], []⟩ [("_law_script", u)]) ∧ ∀ base : Heap, (K w.params).In base → base.Ns mainGlobals mg → FnOk l.prog w (K w.params) mg base CX0 4 fa fd ["_law_script"] (spLaw (K w.params))) :
    PySem.W.WalkO q loose XP YP l.row.toRowW d [] (fun f vs => PySem.call f vs) :=
  L2.walk_of (n := 63) (k := 4) (x := "_law_script") (CX := fun _ => CX0) (sp := fun w => spLaw (K w.params)) hn (by decide) hdf ⟨rfl, by decide, by decide⟩ hY F (fun _ _ a ns hl _ hS => ⟨a, ns, rfl, hS, hl, fun _ => rfl⟩) fun _ _ _ _ _ z => z
end K19
open PySem PySem.W PyProof.Rows in
set_option maxRecDepth 100000 in
set_option maxHeartbeats 0 in
theorem PySem.Challenge.cw_deltaboughs_k19_whole_nothing_let_go_tha_holds : PySem.Challenge.rw_deltaboughs_k19_whole_nothing_let_go_tha.Holds := by
  w_on; o_law; k_head; (case hw => w_witness2)
  k_fill
  refine K19.walk (l := PySem.Challenge.rw_deltaboughs_k19_whole_nothing_let_go_tha) rfl rfl (fun w h Y => PySem.W.kIn_of Y) ?F
  case F =>
    intro w mg fa h KX G hmg
    refine' K19.all_mk KX G hmg ?aC0 ?a0 ?i0 ?l0 ?c0 ?k0 ?a1 ?i1 ?l1 ?c1 ?k1 ?a2 ?i2 ?l2 ?c2 ?k2 ?a3 ?i3 ?l3 ?c3 ?k3 ?a4 ?i4 ?l4 ?c4 ?k4 ?a5 ?i5 ?l5 ?c5 ?k5 ?a6 ?i6 ?l6 ?c6 ?k6 ?a7 ?l7 ?c7 ?k7 ?a8 ?l8 ?c8 ?k8 ?a9 ?l9 ?c9 ?k9 ?a10 ?l10 ?c10 ?k10 ?a11 ?l11 ?c11 ?k11 ?pg0 ?hd0 ?po0 ?sa0 ?mk0 ?kc0 ?no0_own_now ?no0_own_inside ?no0_own_waiting ?z_len ?z_all ?z_dict ?z_list ?z_range ?z_max ?z_min ?v_BEHIND
    (case aC0 => k_is)
    (case a0 => k_is)
    (case i0 => k_is)
    (case l0 => k_is)
    (case c0 => k_is)
    (case k0 => k_is)
    (case a1 => k_is)
    (case i1 => k_is)
    (case l1 => k_is)
    (case c1 => k_is)
    (case k1 => k_is)
    (case a2 => k_is)
    (case i2 => k_is)
    (case l2 => k_is)
    (case c2 => k_is)
    (case k2 => k_is)
    (case a3 => k_is)
    (case i3 => k_is)
    (case l3 => k_is)
    (case c3 => k_is)
    (case k3 => k_is)
    (case a4 => k_is)
    (case i4 => k_is)
    (case l4 => k_is)
    (case c4 => k_is)
    (case k4 => k_is)
    (case a5 => k_is)
    (case i5 => k_is)
    (case l5 => k_is)
    (case c5 => k_is)
    (case k5 => k_is)
    (case a6 => k_is)
    (case i6 => k_is)
    (case l6 => k_is)
    (case c6 => k_is)
    (case k6 => k_is)
    (case a7 => k_is)
    (case l7 => k_is)
    (case c7 => k_is)
    (case k7 => k_is)
    (case a8 => k_is)
    (case l8 => k_is)
    (case c8 => k_is)
    (case k8 => k_is)
    (case a9 => k_is)
    (case l9 => k_is)
    (case c9 => k_is)
    (case k9 => k_is)
    (case a10 => k_is)
    (case l10 => k_is)
    (case c10 => k_is)
    (case k10 => k_is)
    (case a11 => k_is)
    (case l11 => k_is)
    (case c11 => k_is)
    (case k11 => k_is)
    (case pg0 => k_is)
    (case hd0 => k_is)
    (case po0 => k_is)
    (case sa0 => k_is)
    (case mk0 => k_is)
    (case kc0 => k_is)
    (case no0_own_now => k_is)
    (case no0_own_inside => k_is)
    (case no0_own_waiting => k_is)
    (case z_len => k_is)
    (case z_all => k_is)
    (case z_dict => k_is)
    (case z_list => k_is)
    (case z_range => k_is)
    (case z_max => k_is)
    (case z_min => k_is)
    (case v_BEHIND => k_is)
