import PyProof.Rows.All
import Wide.All
import OpenK.AllK
import Wide.FinOn
import HandS.ForMost
import HandS.More
import HandS.Conv
import HandS.Codes
import HandS.Flow
import HandS.Finally
import HandS.Walk
import HandS.IsInst
import HandS.Defaults
import HandS.MakeKwOnly
import HandS.DeepEq
import HandS.CallLocal
import HandS.Zip
import HandS.Deep
import KE.KEqNest
import KE.GoesZip
import KE.GoesMore
import PyProof.ReprRoads
import HandS.DictComp
import HandS.TupAny
import HandS.CallSlots
import HandS.ExcInit
import HandS.RaiseFrom
import HandS.ExcIs
import HandS.ExcField
import HandS.WordsExc
import HandS.TryMany
import HandS.SortInts
import HandS.SortRule
import KE.DataEq
import HandS.ListItems
import KE.KDictZip
import PyProof.EnumMake
import PySem.Challenge.RW_deltaboughs_k06_slots_and_swaps
set_option Elab.async false
set_option maxRecDepth 100000
set_option maxHeartbeats 4000000
set_option synthInstance.maxHeartbeats 0
set_option synthInstance.maxSize 100000
set_option linter.all false
/-! ### own classes of errors, each right under a built-in one -/
namespace ER
open PySem PySem.W PySem.Calls PySem.HandSPX Builtin Builtin.ObjectAttr
/-- B: the built-in class above; nw: what makes its instances, the one of nB; ini: what starts them; tl: B's line -/
structure Base (B nB nw nI ini : String) (tB tl : List Value) : Prop where
  N : ExcBaseFacts nB nw nI tB
  hasN : tl.contains (.type nB) = true
  noA : tl.contains (.type "AttributeError") = false
  noE : tl.contains (.type "NameError") = false
  hasB : tl.contains (.type B) = true
  slot : Slot B "__init__" ini
  entry : entryFor table ini = some Builtin.«BaseException.__init__»
  kind : builtinKind ini = some .slot
  split : splitId ini = some (B, "__init__")
  row : Manifest.signature? ini = some ⟨.positional, "*", B, .self, [⟨"args", .varPos, false⟩]⟩
  star : (B != "*") = true
  obj : tl.contains (.type "object") = true
  pass : ∀ v, refuseLoop v "__setattr__" tl = pure ()
  ty : typeOf (.type B) = pure (.type "type")
abbrev tlV : List Value := [.type "ValueError", .type "Exception", .type "BaseException", .type "object"]
abbrev tlI : List Value := [.type "IndexError", .type "LookupError", .type "Exception", .type "BaseException", .type "object"]
abbrev tlK : List Value := [.type "KeyError", .type "LookupError", .type "Exception", .type "BaseException", .type "object"]
abbrev tlL : List Value := [.type "LookupError", .type "Exception", .type "BaseException", .type "object"]
abbrev tlR : List Value := [.type "RuntimeError", .type "Exception", .type "BaseException", .type "object"]
abbrev tlO : List Value := [.type "OverflowError", .type "ArithmeticError", .type "Exception", .type "BaseException", .type "object"]
theorem Base.of {B nw ini : String} {tl : List Value} (F : ExcBaseFacts B nw ini tl) (o : tl.contains (.type "object") = true) (p : ∀ v, refuseLoop v "__setattr__" tl = pure ()) (y : typeOf (.type B) = pure (.type "type")) : Base B B nw ini ini tl tl :=
  ⟨F, F.hasB, F.noAttr, F.noName, F.hasB, F.init, F.initEntry, F.initKind, F.initSplit, F.initRow, F.noStar, o, p, y⟩
theorem bV : Base "ValueError" "ValueError" "ValueError.__new__" "ValueError.__init__" "ValueError.__init__" tlV tlV := .of F.excBase_ValueError (by decide +kernel) (fun _ => by kernel_rfl) (by kernel_rfl)
theorem bI : Base "IndexError" "IndexError" "IndexError.__new__" "IndexError.__init__" "IndexError.__init__" tlI tlI := .of F.excBase_IndexError (by decide +kernel) (fun _ => by kernel_rfl) (by kernel_rfl)
theorem bL : Base "LookupError" "LookupError" "LookupError.__new__" "LookupError.__init__" "LookupError.__init__" tlL tlL := .of F.excBase_LookupError (by decide +kernel) (fun _ => by kernel_rfl) (by kernel_rfl)
theorem bR : Base "RuntimeError" "RuntimeError" "RuntimeError.__new__" "RuntimeError.__init__" "RuntimeError.__init__" tlR tlR := .of F.excBase_RuntimeError (by decide +kernel) (fun _ => by kernel_rfl) (by kernel_rfl)
theorem bO : Base "OverflowError" "OverflowError" "OverflowError.__new__" "OverflowError.__init__" "OverflowError.__init__" tlO tlO := .of F.excBase_OverflowError (by decide +kernel) (fun _ => by kernel_rfl) (by kernel_rfl)
theorem bK : Base "KeyError" "LookupError" "LookupError.__new__" "LookupError.__init__" "KeyError.__init__" tlL tlK :=
  ⟨F.excBase_LookupError, by decide +kernel, by decide +kernel, by decide +kernel, by decide +kernel, PyProof.Rows.excClass_KeyError.init, PyProof.Rows.excClass_KeyError.initEntry, PyProof.Rows.excClass_KeyError.initKind, PyProof.Rows.excClass_KeyError.initSplit, PyProof.Rows.excClass_KeyError.initSig, PyProof.Rows.excClass_KeyError.notStar,
    by decide +kernel, fun _ => by kernel_rfl, by kernel_rfl⟩
theorem ahead {C : Addr} {tl : List Value} {X : String} {b : Bool} (h : tl.contains (.type X) = b) : (Value.ref C :: tl).contains (.type X) = b := by
  rw [List.contains_cons, h]
  cases b <;> rfl
section
variable {prog : Program} {w : World} {M : Model} {A : Around} {E : Value → Shared → Prop} {R : Result → Shared → Prop}
variable {h : Heap} {g : Array GenState} {d : Drawn} {t : Nat} {os : OsState}
variable {nm q : Str} {C N : Addr} {bs tB tl : List Value} {hd : Bool} {sn : List Str} {sub : List Value} {ab : Bool} {col : Option Bool}
variable {dd : Option Addr} {k0 k1 k2 k3 k5 : Option Value} {B nB nw nI ini : String}
/-- the maker takes the class -/
theorem maker_takes (Z : Base B nB nw nI ini tB tl) {rest : List Value} {Q : Unit → Shared → Prop}
    (hC : h.get? C = some (excClassObj nm q C N bs tl hd sn sub ab col dd k0 k1 k2 k3 k5 nw)) (fin : Q () ⟨h, g, d, t, os⟩) :
    wpAny M A (checkBuiltinCall nw ⟨.ref C :: rest, []⟩) Q E ⟨h, g, d, t, os⟩ := by
  have c1 := ahead (C := C) Z.hasN
  have c2 := Z.N.noStar
  simp only [checkBuiltinCall, Z.N.newKind, Z.N.newSplit, Z.N.newRow]
  repeat (first
    | refine wpAny_loadPart_at hC ?_
    | (refine wpAny_isSubtype_exc hC ?_; rw [c1])
    | refine wpAny_staticBase_exc hC ?_
    | refine wpAny_madeBy_exc hC ?_
    | simp only [bne_self_eq_false, Bool.false_eq_true, if_false]
    | wp_step)
  exact fin
/-- the starter takes an instance -/
theorem starter_takes (Z : Base B nB nw nI ini tB tl) {e : Addr} {oe : Obj} {rest : List Value} {Q : Unit → Shared → Prop}
    (hC : h.get? C = some (excClassObj nm q C N bs tl hd sn sub ab col dd k0 k1 k2 k3 k5 nw)) (he : h.get? e = some oe) (hc : oe.cls = .ref C)
    (fin : Q () ⟨h, g, d, t, os⟩) : wpAny M A (checkBuiltinCall ini ⟨.ref e :: rest, []⟩) Q E ⟨h, g, d, t, os⟩ := by
  have c1 := ahead (C := C) Z.hasB
  have c2 := Z.star
  simp only [checkBuiltinCall, Z.kind, Z.split, Z.row]
  repeat (first
    | (with_reducible refine wpAny_loadPart_at he ?_; rw [hc])
    | with_reducible refine wpAny_loadPart_at hC ?_
    | (with_reducible refine wpAny_isSubtype_exc hC ?_; rw [c1])
    | wp_step)
  refine wpAny_onRaise ?_
  have ck : ∀ (x y : String) (n : Nat), Bind.check ⟨.positional, "*", B, .self, [⟨"args", .varPos, false⟩]⟩ x y n (({ pos := Value.ref e :: rest } : Args).kw.map fun z => z.1) = pure () := fun x y n => check_star_args ..
  rw [ck]
  exact wpAny_pure fin
/-- a bare instance -/
theorem makes (Z : Base B nB nw nI ini tB tl) {rest : List Value} (hC : h.get? C = some (excClassObj nm q C N bs tl hd sn sub ab col dd k0 k1 k2 k3 k5 nw)) (sz : rest.length ≤ sizeLine)
    (fin : R (.ok (.ret (.ref (h.objs.size + 1)))) ⟨(h.push (W.kdv_tup rest)).push (excO C h.objs.size), g, d, t, os⟩) : codeAny (model prog w) A (.builtin nw ⟨.ref C :: rest, []⟩) R ⟨h, g, d, t, os⟩ := by
  have c0 := Z.N.ends
  have c1 := ahead (C := C) Z.hasN
  have c2 := ahead (C := C) Z.noA
  have c3 := ahead (C := C) Z.noE
  refine codeAny_builtinAt Z.N.entry ?_
  unfold Builtin.«BaseException.__new__»
  refine wpAt_bind ?_
  show wpAt _ _ _ (stack >>= _) _ _ _
  refine wpAt_bind (wpAt_stack fun _ _ => wpAt_of_wpAny ?_)
  wp_walk
  refine wpAt_of_wpAny ?_
  rw [Z.N.owner]
  repeat (first
    | with_reducible refine wpAny_madeHere_exc Z.N.canon hC ?_
    | with_reducible refine wpAny_loadPart_at hC ?_
    | (with_reducible refine wpAny_isSubtype_exc hC ?_; first | rw [c1] | rw [c2] | rw [c3])
    | wp_step)
  show R _ _
  rw [Heap.size_push]
  exact fin
/-- the class is called: an instance is made, then its own starter is called -/
theorem meta_call (Z : Base B nB nw nI ini tB tl) {rest : List Value} {fI : Addr} {Q : Fin → Shared → Prop} (hC : h.get? C = some (excClassObj nm q C N bs tl hd sn sub ab col dd k0 k1 k2 k3 k5 nw)) (sz : rest.length ≤ sizeLine)
    (hi : W.Looks (model prog w) h (typeLookup (.ref C) "__init__") (some (.ref fI))) (hb : ∀ v, W.Looks (model prog w) h (bindSpecial (.ref fI) v) (.ref fI, [v]))
    (run : codeAny (model prog w) A (.call (.ref fI) ⟨.ref (h.objs.size + 1) :: rest, []⟩) (fun r s' => match r with
      | .ok (.ret v) => v = .none ∧ Q (.done (.ret (.ref (h.objs.size + 1)))) s'
      | .ok _ => False
      | .error e => E e s') ⟨(h.push (W.kdv_tup rest)).push (excO C h.objs.size), g, d, t, os⟩) :
    wpAny (model prog w) A (Builtin.«type.__call__» ⟨.ref C :: rest, []⟩) Q E ⟨h, g, d, t, os⟩ := by
  repeat (first
    | with_reducible refine wpAny_loadPart_at hC ?_
    | with_reducible refine wpAny_madeBy_exc hC ?_
    | wp_step)
  refine codeAny_call_builtin_code (Code.quiet_builtin _ Z.N.quiet) (maker_takes Z hC (makes Z hC sz ?_))
  show wpAny _ _ _ _ _ _
  have kp : ∀ b o, h.get? b = some o → ((h.push (W.kdv_tup rest)).push (excO C h.objs.size)).get? b = some o := fun _ _ e => Heap.get?_push_of_some _ (Heap.get?_push_of_some _ e)
  have hC2 := kp _ _ hC
  have he : ((h.push (W.kdv_tup rest)).push (excO C h.objs.size)).get? (h.objs.size + 1) = some (excO C h.objs.size) := by heap_get
  have cC : (Value.ref C :: tl).contains (.ref C) = true := by simp
  have i2 := hi.keeps kp
  have b2 := (hb (.ref (h.objs.size + 1))).keeps kp
  unfold isInstance
  repeat (first
    | with_reducible refine wpAny_loadPart_at he ?_
    | (with_reducible refine wpAny_isSubtype_exc hC2 ?_; rw [cC])
    | wp_step)
  show wpAny _ _ (typeLookup (.ref C) _) _ _ _
  refine i2.at ?_
  refine wpAny_holding (wpAny_bind (b2.at ?_))
  refine wpAny_bind (wpAny_call (codeAny_mono run fun r s' z => ?_))
  rcases r with e | (v | _ | _ | _)
  · exact z
  · first
      | exact z.elim
      | (obtain ⟨rfl, z⟩ := z; first | exact wpAny_pure (wpAny_pure z) | (wp_walk; exact z))
  all_goals first
    | exact z.elim
    | (obtain ⟨rfl, z⟩ := z; first | exact wpAny_pure (wpAny_pure z) | (wp_walk; exact z))
theorem class_call (Z : Base B nB nw nI ini tB tl) {rest : List Value} {fI : Addr} (hC : h.get? C = some (excClassObj nm q C N bs tl hd sn sub ab col dd k0 k1 k2 k3 k5 nw)) (sz : rest.length ≤ sizeLine)
    (hi : W.Looks (model prog w) h (typeLookup (.ref C) "__init__") (some (.ref fI))) (hb : ∀ v, W.Looks (model prog w) h (bindSpecial (.ref fI) v) (.ref fI, [v]))
    (run : codeAny (model prog w) (A.under (.builtin "type.__call__" ⟨.ref C :: rest, []⟩)) (.call (.ref fI) ⟨.ref (h.objs.size + 1) :: rest, []⟩) (W.InitBack (h.objs.size + 1) R) ⟨(h.push (W.kdv_tup rest)).push (excO C h.objs.size), g, d, t, os⟩) :
    codeAny (model prog w) A (.call (.ref C) ⟨rest, []⟩) R ⟨h, g, d, t, os⟩ := by
  have t1 := tc_lookup
  have t2 := tc_bind (.ref C)
  have tC : (⟨h, g, d, t, os⟩ : Shared).TypeIs (.ref C) "type" := ⟨_, hC, rfl⟩
  refine codeAny_of_tree ?_
  show wpAny _ _ (callAny (.ref C) _) _ _ _
  repeat (any_goals (first
    | assumption
    | with_reducible refine wpAny_loadPart_at hC ?_
    | wp_step))
  refine ⟨rfl, codeAny_call_builtin_at (Code.quiet_builtin _ (by decide +kernel)) entry_typeCall (wpAny_check_type_call_sub hC (meta_call Z hC sz hi hb ?_))⟩
  refine codeAny_mono run fun r s' z => ?_
  rcases r with e | (v | _ | _ | _) <;> exact z
/-- B.__init__(e, ..): the args are laid anew -/
theorem starts (Z : Base B nB nw nI ini tB tl) {e t0 : Addr} {rest : List Value} (hC : h.get? C = some (excClassObj nm q C N bs tl hd sn sub ab col dd k0 k1 k2 k3 k5 nw)) (he : h.get? e = some (excO C t0)) (sz : rest.length ≤ sizeLine)
    (fin : ∀ h' t1, (∀ b o, b ≠ e → h.get? b = some o → h'.get? b = some o) → h'.get? e = some (excO C t1) → R (.ok (.ret .none)) ⟨h', g, d, t, os⟩) : codeAny (model prog w) A (.call (.builtin ini) ⟨.ref e :: rest, []⟩) R ⟨h, g, d, t, os⟩ := by
  refine codeAny_call_builtin Z.slot.plain Z.entry (starter_takes Z hC he rfl ?_)
  wp_walk
  have kp : ∀ b o, h.get? b = some o → (h.push (W.kdv_tup rest)).get? b = some o := fun _ _ e => Heap.get?_push_of_some _ e
  refine fin _ h.objs.size (fun b o n ho => (Heap.get?_update_other _ _ (Ne.symm n)).trans (kp b o ho)) ?_
  rw [Heap.get?_update_self _ (kp e _ he) rfl]
  rfl
end
/-! ### a class of ours -/
structure BI where
  B : String
  nB : String
  nw : String
  nI : String
  ini : String
  tB : List Value
  tl : List Value
def BI.ok (b : BI) : Prop := Base b.B b.nB b.nw b.nI b.ini b.tB b.tl
def iV : BI := ⟨"ValueError", "ValueError", "ValueError.__new__", "ValueError.__init__", "ValueError.__init__", tlV, tlV⟩
def iI : BI := ⟨"IndexError", "IndexError", "IndexError.__new__", "IndexError.__init__", "IndexError.__init__", tlI, tlI⟩
def iL : BI := ⟨"LookupError", "LookupError", "LookupError.__new__", "LookupError.__init__", "LookupError.__init__", tlL, tlL⟩
def iR : BI := ⟨"RuntimeError", "RuntimeError", "RuntimeError.__new__", "RuntimeError.__init__", "RuntimeError.__init__", tlR, tlR⟩
def iO : BI := ⟨"OverflowError", "OverflowError", "OverflowError.__new__", "OverflowError.__init__", "OverflowError.__init__", tlO, tlO⟩
def iK : BI := ⟨"KeyError", "LookupError", "LookupError.__new__", "LookupError.__init__", "KeyError.__init__", tlL, tlK⟩
/-- what the written part says of the class at C, right under b's -/
structure Own (K : Frag) (C : Addr) (b : BI) : Prop where
  Z : b.ok
  cls : ∃ nm q N bs sn sub ab col dd k0 k1 k2 k3 k5, K.lookup C = some (excClassObj nm q C N bs b.tl true sn sub ab col dd k0 k1 k2 k3 k5 b.nw)
  sa : findIn K (.ref C) "__setattr__" = some (some (.builtin "object.__setattr__"))
  ga : findIn K (.ref C) "__getattribute__" = some (some (.builtin "BaseException.__getattribute__"))
  gg : findIn K (.ref C) "__getattr__" = some none
  exC : subIn K (.ref C) (.type "BaseException") = some true
  tyC : typeIn K (.ref C) = some (.type "type")
  kC : keepIn K (.ref C) = true
  hdC : hasDictIn K C = true
theorem Own.cd {K : Frag} {C : Addr} {b : BI} (T : Own K C b) : ∃ cd, clsIn K C = some cd ∧ cd.mro = .ref C :: b.tl ∧ cd.hasDict = true := by
  obtain ⟨nm, q, N, bs, sn, sub, ab, col, dd, k0, k1, k2, k3, k5, e⟩ := T.cls
  unfold clsIn
  rw [e]
  exact ⟨_, rfl, rfl, rfl⟩
theorem Own.xf {K : Frag} {C : Addr} {b : BI} (T : Own K C b) : L2.XfC K C := ⟨T.ga, T.gg, T.exC, T.hdC⟩
section
variable {prog : Program} {w : World} {A : Around} {E : Value → Shared → Prop} {R : Result → Shared → Prop} {K : Frag} {C x : Addr} {b : BI} {name : Str} {v : Value}
variable {hp : Heap} {g : Array GenState} {d : Drawn} {t : Nat} {os : OsState} {tk : Tok}
/-- x.name = v comes down to the own dict -/
theorem Own.stores (T : Own K C b) {ox : Obj} {od : Option Obj} (X : K.In hp) (I : InstAt hp x ox C od) (no : findIn K (.ref C) name = some none)
    (run : wpAny (model prog w) A.in1 (storeInOwnDict (.ref x) (.ref C) (.str name tk) name v false) (fun fin s' => match fin with
      | .done f => R (.ok f) s'
      | .again c => c.quiet = true ∧ codeAny (model prog w) A c R s') (fun e s' => R (.error e) s') ⟨hp, g, d, t, os⟩) :
    codeAny (model prog w) A (.call (.builtin "object.__setattr__") ⟨[.ref x, .str name tk, v], []⟩) R ⟨hp, g, d, t, os⟩ := by
  obtain ⟨cd, hcd, hm, _⟩ := T.cd
  have Z : Base b.B b.nB b.nw b.nI b.ini b.tB b.tl := T.Z
  have isO : W.Looks (model prog w) hp (isInstance (.ref x) (.type "object")) true := by
    refine I.type.andThen (W.looks_mroIn X ?_)
    unfold W.mroIn
    rw [hcd, Option.bind_some, hm]
    rw [if_neg (by show ¬ ((Value.ref C :: b.tl).isEmpty = true); exact Bool.false_ne_true), ahead Z.obj]
  have line : W.Looks (model prog w) hp (mroOf (.ref C)) cd.mro := (W.looks_clsIn X hcd).andThen .now
  have noT : W.Looks (model prog w) hp (storeTaker? none) none := .now
  have SO := F.store_object
  refine codeAny_call_builtin SO.slot.plain SO.entry ?_
  refine @W.check_slot (model prog w) _ _ ⟨hp, g, d, t, os⟩ "object.__setattr__" "object" "__setattr__" (.ref x) [.str name tk, v] [] _ SO.kind SO.split isO (SO.args (.ref x) (.str name tk) v) ?_
  rw [W.osa_eq, refuse_eq]
  refine wpAny_bind (wpAny_bind (I.type.at (wpAny_bind (line.at ?_))))
  rw [show refuseLoop (.ref x) "__setattr__" cd.mro = pure () by rw [hm, refuseLoop_ref]; exact Z.pass _]
  exact wpAny_pure (wpAny_bind (I.type.at (wpAny_bind ((W.looks_findIn X no).at (wpAny_bind (noT.at run))))))
/-- the first field: a dict is made -/
theorem Own.first (T : Own K C b) {fv : Array Value} (X : K.In hp) (hx : hp.get? x = some { cls := .ref C, data := .fields fv }) (no : findIn K (.ref C) name = some none)
    (fin : ∀ h' tk' dx, (∀ c o, c ≠ x → hp.get? c = some o → h'.get? c = some o) → hp.objs.size ≤ dx → dx ≠ x → h'.get? x = some { cls := .ref C, dict := some dx, data := .fields fv } → h'.Ns1 dx (fun y => if y = name then some v else none) → R (.ok (.ret .none)) ⟨h', g, d, tk', os⟩) :
    codeAny (model prog w) A (.call (.builtin "object.__setattr__") ⟨[.ref x, .str name tk, v], []⟩) R ⟨hp, g, d, t, os⟩ := by
  have I : W.InstAt hp x { cls := .ref C, data := .fields fv } C none := ⟨hx, rfl, rfl, trivial⟩
  have ns : x ≠ hp.objs.size := Nat.ne_of_lt (Heap.lt_size hx)
  refine T.stores X I no ?_
  obtain ⟨cd, hcd, _, hh⟩ := T.cd
  have lk : W.Looks (model prog w) hp (classData C) cd := W.looks_clsIn X hcd
  obtain ⟨_, _, _, _, _, hd, _, _, _, _, _⟩ := cd
  dsimp only at hh
  subst hh
  unfold storeInOwnDict ownDictForStores
  repeat (first
    | with_reducible refine HandSPX.store_in_new ?_ ?_
    | with_reducible refine wpAny_loadPart_at hx ?_
    | with_reducible refine lk.at ?_
    | wp_step)
  · exact ⟨_, #[], _, (Heap.get?_update_ne _ _ _ _ ns.symm).trans (Heap.get?_push_at rfl rfl), rfl, fun e he => (by simp at he), fun _ => rfl⟩
  · intro h' tk' hn sb
    have hx2 : (hp.push { cls := .type "dict", data := .dict #[] }).get? x = some { cls := .ref C, data := .fields fv } := Heap.get?_push_of_some _ hx
    refine fin h' tk' hp.objs.size (fun c o n ho => ?_) (Nat.le_refl _) ns.symm ((sb.2 x ns).trans (Heap.get?_update_self _ hx2 rfl)) hn
    exact (sb.2 c (Nat.ne_of_lt (Heap.lt_size ho))).trans ((Heap.get?_update_ne _ _ _ _ n).trans (Heap.get?_push_of_some _ ho))
/-- a further one -/
theorem Own.next (T : Own K C b) {fv : Array Value} {dx : Addr} {m : Str → Option Value} {nl : List Str} (X : K.In hp) (hx : hp.get? x = some { cls := .ref C, dict := some dx, data := .fields fv }) (hn : hp.Ns1 dx m) (hw : Within m nl) (hz : nl.length ≤ 1000) (no : findIn K (.ref C) name = some none)
    (fin : ∀ h' tk', (∀ c o, c ≠ dx → hp.get? c = some o → h'.get? c = some o) → h'.Ns1 dx (fun y => if y = name then some v else m y) → R (.ok (.ret .none)) ⟨h', g, d, tk', os⟩) :
    codeAny (model prog w) A (.call (.builtin "object.__setattr__") ⟨[.ref x, .str name tk, v], []⟩) R ⟨hp, g, d, t, os⟩ := by
  obtain ⟨oD, _, _, hoD, _, _⟩ := hn.count hw
  refine T.stores X (ox := { cls := .ref C, dict := some dx, data := .fields fv }) (od := some oD) ⟨hx, rfl, rfl, hoD⟩ no ?_
  obtain ⟨cd, hcd, _, hh⟩ := T.cd
  have lk : W.Looks (model prog w) hp (classData C) cd := W.looks_clsIn X hcd
  obtain ⟨_, _, _, _, _, hd, _, _, _, _, _⟩ := cd
  dsimp only at hh
  subst hh
  unfold storeInOwnDict ownDictForStores
  repeat (first
    | with_reducible refine OEX.store_in_old hn hw hz ?_
    | with_reducible refine wpAny_loadPart_at hx ?_
    | with_reducible refine lk.at ?_
    | wp_step)
  exact fun h' tk' h1 sb => fin h' tk' (fun c o n ho => (sb.2 c n).trans ho) h1
end
/-! ### over the abstract heap -/
section
open L2
variable {X : Cx} {pins : List (Addr × Obj)} {σ : St} {H : Hp} {s : Shared} {a C dx : Addr} {f : Str} {y : V} {u : Value} {fs : List (Str × V)} {b : BI} {A : Around} {E : Value → Shared → Prop}
theorem set_first {Q : Unit → Shared → Prop} (T : Own X.K C b) (I : Inv X pins σ H s) (e : H a = some (exo a C none)) (no : findIn X.K (.ref C) f = some none) (ry : RelV y u)
    (fin : ∀ dx s', H dx = none → dx ≠ a → Inv X pins σ (upd (upd H dx (exd dx [(f, y)])) a (exo a C (some dx))) s' → Q () s') : wpAny (model X.prog X.w) A (setAttr (.ref a) f u) Q E s := by
  obtain ⟨t1, ho⟩ := exo_at I.hok e
  obtain ⟨hp, g, d, t, os⟩ := s
  refine set_plain I.kIn (od := none) ⟨ho, rfl, rfl, trivial⟩ T.sa (T.first I.kIn ho no fun h' tk' dx kp big apart hx hn => ?_)
  have fr : H dx = none := I.hok.fresh big
  have old : ∀ {c : Addr} {o : Obj}, hp.get? c = some o → c ≠ dx := fun q => Nat.ne_of_lt (Nat.lt_of_lt_of_le (Heap.lt_size q) big)
  have oth : ∀ {c : Addr}, H c = none → c ≠ a := fun n z => by rw [z, e] at n; cases n
  have stay : ∀ {c : Addr} {z : HO}, H c = some z → exo a C none ≠ z → upd (upd H dx (exd dx [(f, y)])) a (exo a C (some dx)) c = some z := fun q n => by
    rw [upd_ne (at_ne e q n), upd_ne (ne_of_none q fr)]; exact q
  have U : Un X.fs [] H (upd (upd H dx (exd dx [(f, y)])) a (exo a C (some dx))) hp h' :=
    ⟨fun c o q n _ _ => kp c o (oth n) q, fun c o q n _ _ => ⟨o.slots, kp c o (oth n) q⟩, fun c o q n _ => by rw [upd_ne (oth n), upd_ne (old q)]; exact n,
      fun c o q _ => by
        by_cases z : c = a
        · subst z; exact ⟨_, hx⟩
        · exact ⟨o, kp c o z q⟩,
      fun c _ q => stay q exo_tup, fun c _ _ q => stay q exo_frz, fun c ps q => ⟨#[], by rw [stay q exo_tbl]; simp⟩⟩
  refine fin dx _ fr apart (I.un (t' := tk') U fun c z q => ?_)
  by_cases h1 : c = a
  · subst h1; rw [upd_same] at q; cases q; exact exo_ok hx
  rw [upd_ne h1] at q
  by_cases h2 : c = dx
  · subst h2; rw [upd_same] at q; cases q; exact exd_ok hn (relO_put (fs := []) ry fun _ => True.intro)
  rw [upd_ne h2] at q
  refine (I.hok c z q).stay (fun i v hi q2 => kp i v ?_ q2) (fun i hi => stay hi exo_own) fun i xs hi => stay hi exo_tup
  rcases hi with hi | hi
  · rw [hi]; exact h1
  · exact at_ne e hi exo_own
theorem set_next {Q : Unit → Shared → Prop} (T : Own X.K C b) (I : Inv X pins σ H s) (e : H a = some (exo a C (some dx))) (ed : H dx = some (exd dx fs)) (hl : fs.length ≤ 900) (no : findIn X.K (.ref C) f = some none) (ry : RelV y u)
    (fin : ∀ s', Inv X pins σ (upd H dx (exd dx ((f, y) :: fs))) s' → Q () s') : wpAny (model X.prog X.w) A (setAttr (.ref a) f u) Q E s := by
  obtain ⟨t1, ho⟩ := exo_at I.hok e
  obtain ⟨m, hn, rel⟩ := exd_at I.hok ed
  have hw := within_of rel
  obtain ⟨hp, g, d, t, os⟩ := s
  obtain ⟨oD, _, _, hoD, _, _⟩ := hn.count hw
  refine set_plain I.kIn (od := some oD) ⟨ho, rfl, rfl, hoD⟩ T.sa (T.next I.kIn ho hn hw (by rw [List.length_map]; omega) no fun h' tk' kp h1 => ?_)
  have there : ∃ o, h'.get? dx = some o := by obtain ⟨o, _, _, q, _⟩ := h1; exact ⟨o, q⟩
  exact fin _ (I.write (t' := tk') (x := dx) (e := dx) (o := exd dx ((f, y) :: fs)) (by rw [ed]; exact True.intro) (.inl rfl) kp there (exd_ok h1 (relO_put ry rel)))
theorem start_ok {Q : Value → Shared → Prop} {us : List Value} (T : Own X.K C b) (I : Inv X pins σ H s) (e : H a = some (exo a C none)) (sz : us.length ≤ sizeLine) (fin : ∀ s', Inv X pins σ H s' → Q .none s') :
    wpAny (model X.prog X.w) A (call (.builtin b.ini) (.ref a :: us)) Q E s := by
  obtain ⟨nm, q, N, bs, sn, sub, ab, col, dd, k0, k1, k2, k3, k5, hC⟩ := T.cls
  have Z : Base b.B b.nB b.nw b.nI b.ini b.tB b.tl := T.Z
  obtain ⟨t1, ho⟩ := exo_at I.hok e
  obtain ⟨hp, g, d, t, os⟩ := s
  refine wpAny_call (starts Z (I.kIn _ _ hC) ho sz fun h' t2 kp hx => ?_)
  have J := I.write (t' := t) (x := a) (e := a) (o := exo a C none) (by rw [e]; exact True.intro) (.inl rfl) kp ⟨_, hx⟩ (exo_ok hx)
  have same : upd H a (exo a C none) = H := funext fun c => if z : c = a then by rw [z, upd_same, e] else by rw [upd_ne z]
  rw [same] at J
  exact fin _ J
/-! ### readings, rules -/
/-- B.__init__(self, ..) -/
def tIni (K : Frag) (b : BI) (ta : TA) : TE := fun σ H Q => ta σ H fun vs H1 => ∃ (a C : Addr) (ws : List V), vs = .ref a :: ws ∧ ws.length ≤ 1000 ∧ Own K C b ∧ H1 a = some (exo a C none) ∧ Q .non H1
/-- self.f = e, the first one -/
def tOs1 (K : Frag) (b : BI) (f : Str) (to te : TE) : TS := fun D σ H => te σ H fun y H1 => to σ H1 fun x H2 => ∃ a C : Addr, x = .ref a ∧ Own K C b ∧ findIn K (.ref C) f = some none ∧
  H2 a = some (exo a C none) ∧ ∀ dx, H2 dx = none → dx ≠ a → D.nx σ (upd (upd H2 dx (exd dx [(f, y)])) a (exo a C (some dx)))
/-- self.f = e, a further one -/
def tOs2 (K : Frag) (b : BI) (f : Str) (to te : TE) : TS := fun D σ H => te σ H fun y H1 => to σ H1 fun x H2 => ∃ (a C dx : Addr) (fs : List (Str × V)), x = .ref a ∧ Own K C b ∧ findIn K (.ref C) f = some none ∧
  H2 a = some (exo a C (some dx)) ∧ H2 dx = some (exd dx fs) ∧ fs.length ≤ 900 ∧ D.nx σ (upd H2 dx (exd dx ((f, y) :: fs)))
/-- C(e, ..) as a value: the error stands in the heap -/
def tMkV (C : Addr) (sp : Sp) (dvs : List V) (ta : TA) : TE := fun σ H Q => ta σ H fun vs H1 => vs.length ≤ 1000 ∧ ∀ a, H1 a = none → sp (.ref a :: (vs ++ dvs)) (upd H1 a (exo a C none)) (fun v H2 => v = .non ∧ Q (.ref a) H2) (fun _ _ _ => False)
end
/-- the starter's name is found -/
def BI.named (K : Frag) (b : BI) : Prop := findCls K (.type b.B) (.type "type") "__init__" = some (.val (.builtin b.ini)) ∧ Manifest.isStub b.B = false ∧ handedIn (.builtin b.ini) = true ∧ bootBuiltins b.B = some (.type b.B)
theorem nV {K : Frag} : BI.named K iV := ⟨by kernel_rfl, by decide +kernel, by decide +kernel, by decide +kernel⟩
theorem nI {K : Frag} : BI.named K iI := ⟨by kernel_rfl, by decide +kernel, by decide +kernel, by decide +kernel⟩
theorem nL {K : Frag} : BI.named K iL := ⟨by kernel_rfl, by decide +kernel, by decide +kernel, by decide +kernel⟩
theorem nR {K : Frag} : BI.named K iR := ⟨by kernel_rfl, by decide +kernel, by decide +kernel, by decide +kernel⟩
theorem nO {K : Frag} : BI.named K iO := ⟨by kernel_rfl, by decide +kernel, by decide +kernel, by decide +kernel⟩
theorem nK {K : Frag} : BI.named K iK := ⟨by kernel_rfl, by decide +kernel, by decide +kernel, by decide +kernel⟩
section
open L2
variable {X : Cx} {b : BI} {o e : Expr} {es : List Expr} {to te : TE} {ta : TA} {f x : Str} {p p' p1 p2 pos : Pos}
theorem pe_ini {pl : Sem Bool} (nb : b.named X.K) (Z : b.ok) (hg : Gl X x) (hm : X.mg x = none) (hx : x = Str.ofString b.B) (ha : PA X (e :: es) ta) (h1 : x ≠ "__name__" := by decide) (h2 : (x == ("__debug__" : Str)) = false := by decide)
    (hc : eval (.Call (.Attribute (.Name x p1) "__init__" p2) (e :: es) [] pos) X.env = (do
      let v ← eval (.Name x p1) X.env
      standAt p2.atName
      let (m, first) ← holding [v] (getMethod v "__init__" pl)
      callWith pos m first (backTo pos (starEach (e :: es) X.env)) (backToKw pos (keywordEach [] X.env))) := by rfl)
    (he : starEach (e :: es) X.env = (false, eval e X.env) :: starEach es X.env := by rfl) (hp : (backTo pos (starEach es X.env)).any (·.1) = false := by rfl) :
    PE X (.Call (.Attribute (.Name x p1) "__init__" p2) (e :: es) [] pos) (tIni X.K b ta) := by
  refine ⟨fun pins s σ H Q I h => ?_⟩
  obtain ⟨n1, n2, n3, n4⟩ := nb
  have Z' : Base b.B b.nB b.nw b.nI b.ini b.tB b.tl := Z
  refine PySem.W.methodCall_KW (ld_blt I hg hm (by rw [hx]; exact n4) ?_ h1 h2) hc
  obtain ⟨m, fr⟩ := I.fr
  refine PySem.W.method_type fr I.ok.mod.kin Z'.ty n2 n1 n3 ?_
  show wpAny _ _ (callWith pos (Value.builtin b.ini) [] (backTo pos (starEach (e :: es) X.env)) []) _ _ _
  refine PyProof.Rows.callWith_method1 (thn (ha.run pos pins _ σ H _ (I.tok _) h) fun us s1 ⟨vs, H1, I1, r1, a, C, ws, ev, hl, T, ea, q⟩ => ?_) he hp
  subst ev
  cases r1 with
  | @cons _ u0 _ ur ra rw' =>
    obtain rfl : u0 = Value.ref a := ra
    exact start_ok T I1 ea (by rw [← Paired.length rw', sizeLine_eq]; omega) fun s' J => ⟨.non, H1, J, rfl, q⟩
theorem ps_os1 (ho : PE X o to) (he : PE X e te) (hs : swapsWith e (some (.Attribute o f p')) pos.line X.env = pure false := by rfl) : PS X (.Assign [.Attribute o f p'] e pos) (tOs1 X.K b f to te) := by
  refine ⟨fun pins s σ H D I h => plainObj_wpAny_Assign_Attribute ?_ hs⟩
  refine thn (he.run pins s σ H _ I h) fun v s1 ⟨y, H1, I1, r1, q1⟩ => thn (ho.run pins s1 σ H1 _ I1 q1) fun u s2 ⟨z, H2, I2, r2, a, C, ex, T, no, ea, q⟩ => ?_
  subst ex
  obtain rfl : u = Value.ref a := r2
  exact set_first T I2 ea no r1 fun dx s' n ne J => ⟨σ, _, J, q dx n ne⟩
theorem ps_os2 (ho : PE X o to) (he : PE X e te) (hs : swapsWith e (some (.Attribute o f p')) pos.line X.env = pure false := by rfl) : PS X (.Assign [.Attribute o f p'] e pos) (tOs2 X.K b f to te) := by
  refine ⟨fun pins s σ H D I h => plainObj_wpAny_Assign_Attribute ?_ hs⟩
  refine thn (he.run pins s σ H _ I h) fun v s1 ⟨y, H1, I1, r1, q1⟩ => thn (ho.run pins s1 σ H1 _ I1 q1) fun u s2 ⟨z, H2, I2, r2, a, C, dx, fs, ex, T, no, ea, ed, hl, q⟩ => ?_
  subst ex
  obtain rfl : u = Value.ref a := r2
  exact set_next T I2 ea ed hl no r1 fun s' J => ⟨σ, _, J, q⟩
section
variable {CX : CXT} {C fI : Addr} {k : Nat} {fd : FuncData} {ps : List Str} {sp : Sp} {ds : List Value} {dvs : List V}
/-- the class is called, its own starter keeping sp: what is left -/
theorem make_run {P : Value → Shared → Prop} (T : Own X.K C b) (iC : findIn X.K (.ref C) "__init__" = some (some (.ref fI))) (tI : typeIn X.K (.ref fI) = some (.type "function")) (FI : FnOk X.prog X.w X.K X.mg X.base CX k fI fd ps sp) (hr : Room (k + 1) X.A) (hb : Binds X.K fd ps ds) (hd : Vals dvs ds)
    (hx : Passes CX X (fun _ _ _ => False)) {pins : List (Addr × Obj)} {σ : St} {H1 : Hp} {hp : Heap} {g : Array GenState} {dr : Drawn} {tk : Nat} {os : OsState} {us : List Value} {vs : List V} {G : V → Hp → Prop} (I1 : Inv X pins σ H1 ⟨hp, g, dr, tk, os⟩) (r1 : Vals vs us) (sz : vs.length ≤ 1000)
    (hq : sp (.ref (hp.objs.size + 1) :: (vs ++ dvs)) (upd H1 (hp.objs.size + 1) (exo (hp.objs.size + 1) C none)) G (fun _ _ _ => False))
    (fin : ∀ (v : V) (u : Value) (H2 : Hp) (s2 : Shared), RelV v u → G v H2 → s2.os = os → PyProof.Rows.AllBare s2.gens → Un (frs X.stack) [] (upd H1 (hp.objs.size + 1) (exo (hp.objs.size + 1) C none)) H2 ((hp.push (W.kdv_tup us)).push (excO C hp.objs.size)) s2.heap → HOk X.prog X.w H2 s2.heap → u = .none ∧ P (.ref (hp.objs.size + 1)) s2) :
    wpAny (model X.prog X.w) X.A (call (.ref C) us) P X.xe ⟨hp, g, dr, tk, os⟩ := by
  obtain ⟨nm, q, N, bs, sn, sub, ab, col, dd, k0, k1, k2, k3, k5, hC⟩ := T.cls
  have Z : Base b.B b.nB b.nw b.nI b.ini b.tB b.tl := T.Z
  have kp : ∀ c o, hp.get? c = some o → ((hp.push (W.kdv_tup us)).push (excO C hp.objs.size)).get? c = some o := fun _ _ z => Heap.get?_push_of_some _ (Heap.get?_push_of_some _ z)
  have he : ((hp.push (W.kdv_tup us)).push (excO C hp.objs.size)).get? (hp.objs.size + 1) = some (excO C hp.objs.size) := by heap_get
  have I2 : Inv X pins σ (upd H1 (hp.objs.size + 1) (exo (hp.objs.size + 1) C none)) ⟨(hp.push (W.kdv_tup us)).push (excO C hp.objs.size), g, dr, tk, os⟩ := I1.laid (t' := tk) kp (Nat.le_succ _) (exo_ok he)
  have r2 : Vals (V.ref (hp.objs.size + 1) :: (vs ++ dvs)) (Value.ref (hp.objs.size + 1) :: (us ++ ds)) := .cons rfl (r1.append hd)
  have hl : (Value.ref (hp.objs.size + 1) :: us ++ ds).length = ps.length := by
    have z := r2.length
    rw [FI.len _ _ _ _ hq] at z
    exact z.symm
  have su : us.length ≤ sizeLine := by rw [← Paired.length r1, sizeLine_eq]; omega
  refine wpAny_call (class_call Z (I1.kIn _ _ hC) su (looks_findIn I1.kIn iC) (fun v => bind_fn I1.kIn v tI) (codeAny_mono (FI.run _ X.stack _ _ ⟨Value.ref (hp.objs.size + 1) :: us, []⟩ (Value.ref (hp.objs.size + 1) :: (us ++ ds)) _ _ (fun _ _ _ => False)
    (hr.make C us []) (I2.env0.make C us []) (hb _ (Value.ref (hp.objs.size + 1) :: us) I2.kIn hl) r2 hq) fun r s' z => ?_))
  cases r with
  | error er => exact hx pins σ _ _ er s' I2 z
  | ok fl =>
    cases fl with
    | ret u =>
      obtain ⟨v, H2, os2, bare2, un2, hok2, rv, qv⟩ := z
      exact fin v u H2 s' rv qv os2 bare2 un2 hok2
    | next => exact z.elim
    | brk => exact z.elim
    | cont => exact z.elim
/-- X(e, ..), made to be raised -/
theorem pmk_own (T : Own X.K C b) (iC : findIn X.K (.ref C) "__init__" = some (some (.ref fI))) (tI : typeIn X.K (.ref fI) = some (.type "function")) (FI : FnOk X.prog X.w X.K X.mg X.base CX k fI fd ps sp) (hr : Room (k + 1) X.A) (hb : Binds X.K fd ps ds) (hd : Vals dvs ds)
    (hx : Passes CX X (fun _ _ _ => False)) (hg : Gl X x) (hm : X.mg x = some (.ref C)) (ha : PA X (e :: es) ta) (h2 : (x == ("__debug__" : Str)) = false := by decide)
    (he : starEach (e :: es) X.env = (false, eval e X.env) :: starEach es X.env := by rfl) (hp : (backTo pos (starEach es X.env)).any (·.1) = false := by rfl) : PMk X (.Call (.Name x p) (e :: es) [] pos) (tMkO C sp dvs ta) := by
  intro pins s σ H Q I h
  refine wpAny_Call_Name_kw (ld_glob I hg hm ?_ h2)
  refine PySem.W.callWith_K (h₀ := X.base) I.ok.mod.kin T.kC (thn (ha.run pos pins s σ H _ I h) fun us s1 ⟨vs, H1, I1, r1, sz, q1⟩ => ⟨I1.kIn, ?_⟩) he hp
  show wpAny _ _ (call (.ref C) us) _ _ _
  obtain ⟨hp, g, dr, tk, os⟩ := s1
  refine make_run T iC tI FI hr hb hd hx I1 r1 sz (q1 _ (I1.hok.fresh (Nat.le_succ _))) fun v u H2 s2 rv qv os2 bare2 un2 hok2 => ?_
  obtain ⟨ev, d, fs, ea, ed, hd1, q2⟩ := qv
  subst ev
  obtain ⟨h2, g2, d2, t2, os'⟩ := s2
  exact ⟨rv, mk_end (raises_own T.exC T.tyC) I1 (Nat.le_succ _) (fun _ _ z => Heap.get?_push_of_some _ (Heap.get?_push_of_some _ z)) un2 hok2 os2 bare2 ea ed hd1 q2⟩
/-- X(e, ..), a value -/
theorem pe_own (T : Own X.K C b) (iC : findIn X.K (.ref C) "__init__" = some (some (.ref fI))) (tI : typeIn X.K (.ref fI) = some (.type "function")) (FI : FnOk X.prog X.w X.K X.mg X.base CX k fI fd ps sp) (hr : Room (k + 1) X.A) (hb : Binds X.K fd ps ds) (hd : Vals dvs ds)
    (hx : Passes CX X (fun _ _ _ => False)) (hg : Gl X x) (hm : X.mg x = some (.ref C)) (ha : PA X (e :: es) ta) (h2 : (x == ("__debug__" : Str)) = false := by decide)
    (he : starEach (e :: es) X.env = (false, eval e X.env) :: starEach es X.env := by rfl) (hp : (backTo pos (starEach es X.env)).any (·.1) = false := by rfl) : PE X (.Call (.Name x p) (e :: es) [] pos) (tMkV C sp dvs ta) := by
  refine ⟨fun pins s σ H Q I h => ?_⟩
  refine wpAny_Call_Name_kw (ld_glob I hg hm ?_ h2)
  refine PySem.W.callWith_K (h₀ := X.base) I.ok.mod.kin T.kC (thn (ha.run pos pins s σ H _ I h) fun us s1 ⟨vs, H1, I1, r1, sz, q1⟩ => ⟨I1.kIn, ?_⟩) he hp
  show wpAny _ _ (call (.ref C) us) _ _ _
  obtain ⟨hp, g, dr, tk, os⟩ := s1
  refine make_run T iC tI FI hr hb hd hx I1 r1 sz (q1 _ (I1.hok.fresh (Nat.le_succ _))) fun v u H2 s2 rv qv os2 bare2 un2 hok2 => ?_
  obtain ⟨ev, q2⟩ := qv
  subst ev
  obtain ⟨h2, g2, d2, t2, os'⟩ := s2
  have he : ((hp.push (W.kdv_tup us)).push (excO C hp.objs.size)).get? (hp.objs.size + 1) = some (excO C hp.objs.size) := by heap_get
  have I2 : Inv X pins σ (upd H1 (hp.objs.size + 1) (exo (hp.objs.size + 1) C none)) ⟨(hp.push (W.kdv_tup us)).push (excO C hp.objs.size), g, dr, tk, os⟩ := I1.laid (t' := tk) (fun _ _ z => Heap.get?_push_of_some _ (Heap.get?_push_of_some _ z)) (Nat.le_succ _) (exo_ok he)
  exact ⟨rv, .ref (hp.objs.size + 1), H2, I2.call' (ch := []) os2 un2 hok2 bare2 (fun _ z => absurd z (by simp)), rfl, q2⟩
end
end
end ER

/-! ### a, *b, c = a tuple -/
namespace ST
open PySem PyProof.Rows
section
variable {prog : Program} {w : World} {A : Around} {E : Value → Shared → Prop} {s : Shared}
/-- what is left of a tuple's walk -/
theorem left_walk (hh : A.handled = none) {it t : Addr} (ne : t ≠ it) (items : Array Value) (k n : Nat) (hn : k + n = items.size) :
    WalksS prog w A it [it, t] [it] (fun a b => a = b) n (fun i v => items[k + i]? = some v) (fun i s => s.heap.IsTupleIter it t (k + i) ∧ s.heap.IsTuple t items) := by
  have W := Walks.tuple (prog := prog) (w := w) hh it t ne items
  have mv : ∀ {s : Shared} {h' : Heap}, (∀ b o, b ≠ it → s.heap.get? b = some o → h'.get? b = some o) → Moved [it] (fun a b => a = b) s { s with heap := h' } := fun kp =>
    ⟨fun b o n e => kp b o (fun z => n (by simp [z])) e, rfl, rfl, rfl, Nat.le_refl _⟩
  refine ⟨W.sub, fun _ => rfl, fun _ _ _ h1 h2 => h1.trans h2, fun i s h' tk st _ kp => W.frame _ _ _ st kp, fun i s Q E hi st q => ?_, fun s Q E st q => ?_, fun i s Q E st q => W.self _ s Q E st q⟩
  · have hx : items[k + i]? = some items[k + i] := Array.getElem?_eq_getElem (by omega)
    exact wpAny_pyNext_tuple_item st.1 st.2 hx fun h' h1 h2 => q _ _ hx ⟨h1, st.2.extBut h2.extBut ne⟩ (mv fun b o n e => h2.extBut b o n e)
  · exact wpAny_pyNext_tuple_end hh st.1 st.2 (by simp; omega) fun h' h2 => q _ (mv fun b o n e => h2 b o n e)
/-- n targets, the k-th with the star -/
theorem unpack_star {t : Addr} {items : Array Value} {n k : Nat} {Q : List Value → Shared → Prop} (hh : A.handled = none) (ht : IsTup s.heap t items) (hk : k < n) (hn : n ≤ items.size + 1) (sz : items.size ≤ sizeLine)
    (fin : ∀ (h' : Heap) (tk : Nat), (∀ b o, s.heap.get? b = some o → h'.get? b = some o) → s.toks ≤ tk →
      Q (items.toList.take k ++ [.ref h'.objs.size] ++ items.toList.drop (items.size - (n - 1 - k))) { s with heap := h'.push { cls := .type "list", data := .seq ((items.toList.drop k).take (items.size - (n - 1))).toArray }, toks := tk }) :
    wpAny (model prog w) A (unpackItems (.ref t) n (some k)) Q E s := by
  have ne : t ≠ s.heap.objs.size := by obtain ⟨o, ho, _⟩ := ht; exact Nat.ne_of_lt (Heap.lt_size ho)
  unfold unpackItems notIterableAtAll
  refine wpAny_bind (wpAny_bind (wpAny_specialOf ht.typeIs slot_tuple_iter.lookup (wpAny_pure ?_)))
  simp only [Bool.false_eq_true, if_false]
  refine wpAny_bind (wpAny_holding (iter_tuple ht ?_))
  refine wpAny_bind (wpAny_holding (draw_tuple ne k 0 _ _ ⟨_, Heap.get?_push_size _ rfl, rfl, rfl⟩ (ht.push _) (by omega) fun h1 hi1 hs1 => ?_))
  have ht1 : IsTup h1 t items := (ht.push _).extBut hs1.extBut ne
  have lk : (List.take k (List.drop 0 items.toList)).length = k := by rw [List.drop_zero, List.length_take]; simp; omega
  rw [if_neg (by rw [lk]; omega)]
  have W := left_walk (prog := prog) (w := w) (A := A.in1) hh ne items k (items.size - k) (by omega)
  have hs1' : s.heap.objs.size < h1.objs.size := by obtain ⟨o, ho, _⟩ := hi1; exact Heap.lt_size ho
  have fp : ∀ b ∈ [s.heap.objs.size, t], b < h1.objs.size := fun b hb => by
    rcases List.mem_cons.mp hb with rfl | hb
    · exact hs1'
    · rw [List.mem_singleton.mp hb]; exact ht1.lt
  rw [Nat.zero_add] at hi1
  refine wpAny_bind (wpAny_holding (wpAny_collect_iter (s := { s with heap := h1 }) (.inr (.inr (.inr rfl))) W (fun i s' st => st.1.typeIs) ⟨hi1, ht1⟩ fp (by simp) (fun s2 acc mv ac => ?_) (by omega)))
  have ea : acc.toList = items.toList.drop k := by
    apply List.ext_getElem?
    intro j
    rw [List.getElem?_drop, Array.getElem?_toList, Array.getElem?_toList]
    cases e : acc[j]? with
    | some v => exact (ac.2 j v e).symm
    | none =>
      have : acc.size ≤ j := by simpa using e
      rw [ac.1] at this
      exact (Array.getElem?_eq_none (by omega)).symm
  rw [ea]
  have ld : (items.toList.drop k).length = items.size - k := by rw [List.length_drop]; simp
  rw [if_neg (by rw [ld]; omega)]
  obtain ⟨hp2, g2, d2, t2, os2⟩ := s2
  obtain ⟨m1, m2, m3, m4, m5⟩ := mv
  have e1 : s.gens = g2 := m2
  have e2 : d2 = s.drawn := m3
  have e3 : os2 = s.os := m4
  subst e1 e2 e3
  have kp : ∀ b o, s.heap.get? b = some o → hp2.get? b = some o := fun b o e => by
    have nb : b ≠ s.heap.objs.size := Nat.ne_of_lt (Heap.lt_size e)
    exact m1 b o (by simpa using nb) (hs1.extBut b o nb (Heap.get?_push_of_some _ e))
  refine wpAny_bind (wpAny_newList (wpAny_pure ?_) ?_)
  · have q := fin hp2 t2 kp m5
    have a1 : items.size - k - (n - 1 - k) = items.size - (n - 1) := by omega
    have a2 : items.toList.drop (items.size - (n - 1 - k)) = (items.toList.drop k).drop (items.size - (n - 1)) := by rw [List.drop_drop]; congr 1; omega
    rw [a2] at q
    rw [ld, a1, List.drop_zero]
    exact q
  · rw [List.length_take, ld]; omega
end
section
open L2
variable {X : Cx} {e : Expr} {es : List Expr} {t : TG} {u : TGs} {pos p : Pos}
theorem pgs_star (h1 : PG X e t) (h2 : PGs X es u) (hs : (assignEach (.Starred e p :: es) X.env).map (·.2) = assign e X.env :: (assignEach es X.env).map (·.2) := by rfl) : PGs X (.Starred e p :: es) (gCons t u) := by
  refine ⟨fun pins s σ H vs us Q I r h => ?_⟩
  obtain ⟨v, vr, rfl, h⟩ := h
  cases r with
  | cons r rr =>
    rw [hs]
    refine assignInOrder_cons (thn (h1.run pins s σ H _ _ _ I r h) fun _ s1 ⟨σ1, H1, I1, q1⟩ => h2.run pins s1 σ1 H1 _ _ Q I1 rr q1)
/-- n targets, the k-th takes what is left -/
def gStar (K : PySem.W.Frag) (n k : Nat) (u : TGs) : TG := fun v σ H Q => ∃ a xs, v = .ref a ∧ SqT K H a xs ∧ n ≤ xs.length + 1 ∧
  ∀ l, H l = none → u (xs.take k ++ [.ref l] ++ xs.drop (xs.length - (n - 1 - k))) σ (upd H l (.lst ((xs.drop k).take (xs.length - (n - 1))))) Q
theorem vals_cut : ∀ {xs : List V} {us : List Value} (k : Nat), Vals xs us → Vals (xs.take k) (us.take k) ∧ Vals (xs.drop k) (us.drop k)
  | _, _, 0, r => ⟨by rw [List.take_zero, List.take_zero]; exact .nil, by rw [List.drop_zero, List.drop_zero]; exact r⟩
  | _, _, k + 1, .nil => ⟨by rw [List.take_nil, List.take_nil]; exact .nil, by rw [List.drop_nil, List.drop_nil]; exact .nil⟩
  | _, _, k + 1, .cons a r => by
    obtain ⟨h1, h2⟩ := vals_cut k r
    exact ⟨.cons a h1, h2⟩
theorem pg_star {n k kk : Nat} (hc : X.calm = true) (h : PGs X es u) (hn : (assignEach es X.env).length = n := by rfl) (hk : (assignEach es X.env).findIdx? (·.1) = some k := by rfl) (hkn : k < n := by decide) : PG X (.Tuple es kk pos) (gStar X.K n k u) := by
  refine ⟨fun pins s σ H v x Q I r hw => ?_⟩
  obtain ⟨a, xs, rfl, hq, hl, hw⟩ := hw
  cases r
  obtain ⟨its, rv, ht, hz⟩ := I.tuple hq
  have el : xs.length = its.length := rv.length
  rw [assign_Tuple]
  unfold unpack
  refine wpAny_bind (wpAny_standAt (wpAny_bind (wpAny_holding ?_)))
  rw [hn, hk]
  refine unpack_star (I.ok.hd hc) ht hkn (by simp; omega) (by simp; omega) fun h' tk kp _ => ?_
  have I1 : Inv X pins σ H { s with heap := h', toks := tk } := I.kept (t' := tk) kp
  have ez : its.toArray.size = its.length := by simp
  have rm : Vals ((xs.drop k).take (xs.length - (n - 1))) ((its.drop k).take (its.length - (n - 1))) := by rw [el]; exact (vals_cut _ (vals_cut k rv).2).1
  have I2 : Inv X pins σ (upd H h'.objs.size (.lst ((xs.drop k).take (xs.length - (n - 1))))) { s with heap := h'.push { cls := .type "list", data := .seq ((its.drop k).take (its.length - (n - 1))).toArray }, toks := tk } :=
    I1.lnew (t' := tk) rm (by rw [List.length_take, List.length_drop]; omega)
  have rr : Vals (xs.take k ++ [.ref h'.objs.size] ++ xs.drop (xs.length - (n - 1 - k))) (its.take k ++ [.ref h'.objs.size] ++ its.drop (its.length - (n - 1 - k))) := by
    rw [el]
    have r1 : Vals [V.ref h'.objs.size] [Value.ref h'.objs.size] := .cons (show RelV (V.ref h'.objs.size) (Value.ref h'.objs.size) from rfl) .nil
    exact ((vals_cut k rv).1.append r1).append (vals_cut _ rv).2
  have q := h.run pins _ σ _ _ _ Q I2 rr (hw _ I1.fresh)
  simpa using q
end
end ST

/-! ### zip of a tuple and a list -/
namespace ZM
open PySem PyProof.Rows L2
/-- the tuple at a and the list at b as they stand at each turn, their items in new pairs -/
def ItzM (K : PySem.W.Frag) (a b : Addr) : It :=
  ⟨fun i H => ∃ (xs ys : List V) (x y : V), SqT K H a xs ∧ SqL K H b ys ∧ xs[i]? = some x ∧ ys[i]? = some y,
    fun i H v H' => ∃ p x y, v = .ref p ∧ H p = none ∧ H' = upd H p (.tup [x, y]) ∧ (∀ xs, SqT K H a xs → xs[i]? = some x) ∧ ∀ ys, SqL K H b ys → ys[i]? = some y,
    fun i H => ∃ xs ys : List V, SqT K H a xs ∧ SqL K H b ys ∧ i = min xs.length ys.length⟩
theorem sep_of {z TI TO i1 i2 a b : Addr} (D : ZipApart z TI TO i1 i2 a b) : ZipSep2 z TI TO i1 i2 [i1, a] [i2, b] :=
  ⟨D.TIz, D.TOz, D.TITO, D.TIi1, by simp, by simp [D.i1z.symm, D.l1z.symm], by simp [D.TOi1, D.l1TO.symm], D.TIi2, by simp, by simp [D.i2z.symm, D.l2z.symm], by simp [D.TOi2, D.l2TO.symm], by simp [D.i12, D.l2i1.symm], by simp [D.i12.symm, D.l1i2.symm]⟩
theorem turn_m {P : Program} {w : World} {K : PySem.W.Frag} {elts : List Expr} {kk : Nat} {tpos : Pos} {a b z TI TO i1 i2 : Addr} (D : ZipApart z TI TO i1 i2 a b) :
    Turn P w K (.Tuple elts kk tpos) (ItzM K a b) [z, TI, TO, i1, i2] z (fun i h => IsZip h z TI TO .none ∧ IsPair h TI (.ref i1) (.ref i2) ∧ (∃ x y, IsPair h TO x y) ∧ h.IsTupleIter i1 a i ∧ h.IsListIter i2 b i) where
  mem := by simp
  obj := fun i h st c hc => by
    obtain ⟨hz, h1, ⟨x, y, h2⟩, ⟨o1, e1, _, d1⟩, h3⟩ := st
    obtain ⟨o2, e2, _, d2⟩ := h3
    simp only [List.mem_cons, List.not_mem_nil, or_false] at hc
    rcases hc with rfl | rfl | rfl | rfl | rfl
    · exact ⟨_, hz, fun v q => nomatch q⟩
    · exact ⟨_, h1, fun v q => nomatch q⟩
    · exact ⟨_, h2, fun v q => nomatch q⟩
    · exact ⟨o1, e1, fun v q => by rw [d1] at q; cases q⟩
    · exact ⟨o2, e2, fun v q => by rw [d2] at q; cases q⟩
  keep := fun i h h' st k => by
    obtain ⟨hz, h1, ⟨x, y, h2⟩, h3, h4⟩ := st
    exact ⟨k z (by simp) _ hz, k TI (by simp) _ h1, ⟨x, y, k TO (by simp) _ h2⟩, h3.at fun o q => k i1 (by simp) o q, h4.at fun o q => k i2 (by simp) o q⟩
  item := by
    intro X hP hw hK hc i pins s σ H E I hf st hg
    subst hP hw hK
    obtain ⟨hz, hTI, ⟨x0, y0, hTO⟩, h1, h2⟩ := st
    obtain ⟨xs, ys, x, y, hqx, hqy, hx, hy⟩ := hg
    obtain ⟨its, rv, p, _⟩ := I.tuple hqx
    obtain ⟨its2, rv2, p2, _⟩ := I.list hqy
    obtain ⟨u, hu, ru⟩ := rv.get hx
    obtain ⟨u2, hu2, ru2⟩ := rv2.get hy
    have hzl : z < s.heap.objs.size := Heap.lt_size hz
    have b1 : i < its.toArray.size := by simpa using (List.getElem?_eq_some_iff.mp hu).1
    have b2 : i < its2.toArray.size := by simpa using (List.getElem?_eq_some_iff.mp hu2).1
    have hh : X.A.in1.handled = none := I.ok.hd hc
    refine wpAny_pyNext_zipD2_item (sep_of D) (Draws.tuple (A := X.A.in1) hh i1 a D.l1i1 its.toArray) (Draws.list (A := X.A.in1) hh i2 b D.l2i2 its2.toArray) hz hTI hTO ⟨h1, p⟩ ⟨h2, p2.isList⟩ b1 b2 fun v1 v2 h' tk q1 q2 z' TO' g1 g2 hT hsz hk => ?_
    obtain rfl : v1 = u := by
      have q1 : its.toArray[i]? = some v1 := q1
      have e : its.toArray[i]? = some u := by simpa using hu
      exact Option.some.inj (q1.symm.trans e)
    obtain rfl : v2 = u2 := by
      have q2 : its2.toArray[i]? = some v2 := q2
      have e : its2.toArray[i]? = some u2 := by simpa using hu2
      exact Option.some.inj (q2.symm.trans e)
    refine ⟨_, rfl, wpAny_letOwnedTupleGo_zip (s := { s with heap := h', toks := tk }) z' fun h'' z'' sb => ?_⟩
    have hT2 : h''.get? s.heap.objs.size = some { cls := .type "tuple", data := .seq #[v1, v2] } := (sb.2 _ (Nat.ne_of_gt hzl)).trans hT
    have new : ObjOk X.prog X.w (upd H s.heap.objs.size (.tup [x, y])) h'' s.heap.objs.size (.tup [x, y]) := ⟨by show 2 ≤ sizeLine; decide, [v1, v2], .cons ru (.cons ru2 .nil), ⟨_, hT2, rfl, _, rfl⟩⟩
    have I1 : Inv X pins σ (upd H s.heap.objs.size (.tup [x, y])) { s with heap := h'', toks := tk } := by
      refine I.turnedNew (t' := tk) (ch := [z, TI, TO, i1, i2]) (fun c o hb q => ?_) hf (Nat.le_refl _) new
      have nn : ∀ d, d ∈ [z, TI, TO, i1, i2] → c ≠ d := fun d hd e => hb (e ▸ hd)
      exact (sb.2 c (nn z (by simp))).trans (hk c o (nn z (by simp)) (nn TO (by simp)) (nn i1 (by simp)) (nn i2 (by simp)) q)
    refine ⟨.ref s.heap.objs.size, _, I1, rfl, ⟨_, x, y, rfl, I.fresh, rfl, fun l hl => by rw [I.tuple_inj hl hqx]; exact hx, fun l hl => by rw [I.list_inj hl hqy]; exact hy⟩, ⟨z'', ?_, ⟨v1, v2, ?_⟩, ?_, ?_⟩, fun c hm => ?_⟩
    · exact (sb.2 _ D.TIz).trans (hk _ _ D.TIz D.TITO D.TIi1 D.TIi2 hTI)
    · exact (sb.2 _ D.TOz).trans TO'
    · exact g1.1.at fun o q => (sb.2 _ D.i1z).trans q
    · exact g2.1.at fun o q => (sb.2 _ D.i2z).trans q
    · have lt : c < s.heap.objs.size := by
        simp only [List.mem_cons, List.not_mem_nil, or_false] at hm
        obtain ⟨_, e1, _⟩ := h1
        obtain ⟨_, e2, _⟩ := h2
        rcases hm with rfl | rfl | rfl | rfl | rfl
        · exact hzl
        · exact Heap.lt_size hTI
        · exact Heap.lt_size hTO
        · exact Heap.lt_size e1
        · exact Heap.lt_size e2
      rw [upd_ne (Nat.ne_of_lt lt)]
      exact (hf c hm).1
  done := by
    intro X hP hw hK hc i pins s σ H E I hf st hg
    subst hP hw hK
    obtain ⟨hz, hTI, ⟨x0, y0, hTO⟩, h1, h2⟩ := st
    obtain ⟨xs, ys, hqx, hqy, hend⟩ := hg
    obtain ⟨its, rv, p, _⟩ := I.tuple hqx
    obtain ⟨its2, rv2, p2, _⟩ := I.list hqy
    have l1 : its.toArray.size = xs.length := by simpa using rv.length.symm
    have l2 : its2.toArray.size = ys.length := by simpa using rv2.length.symm
    have hh : X.A.in1.handled = none := I.ok.hd hc
    refine wpAny_pyNext_zipD2_end (sep_of D) (Draws.tuple (A := X.A.in1) hh i1 a D.l1i1 its.toArray) (Draws.list (A := X.A.in1) hh i2 b D.l2i2 its2.toArray) hz hTI hTO ⟨h1, p⟩ ⟨h2, p2.isList⟩ (by omega) (by omega) (by omega) fun h' tk hk => ⟨rfl, ?_⟩
    refine I.turnedL (t' := tk) (ch := [z, TI, TO, i1, i2]) (fun c o hb q => ?_) hf
    have nn : ∀ d, d ∈ [z, TI, TO, i1, i2] → c ≠ d := fun d hd e => hb (e ▸ hd)
    exact hk c o (nn z (by simp)) (nn TO (by simp)) (nn i1 (by simp)) (nn i2 (by simp)) q
  self := fun A i s Q E st h => wpAny_pyIter_zip st.1 h
def iZipM (K : PySem.W.Frag) (ta : TA) : TI := fun σ H R => ta σ H fun vs H1 => ∃ a b xs ys, vs = [.ref a, .ref b] ∧ SqT K H1 a xs ∧ SqL K H1 b ys ∧ R (ItzM K a b) H1
theorem pi_zipM {X : Cx} {e e2 : Expr} {ta : TA} {p pos tpos : Pos} {elts : List Expr} {kk : Nat} (hg : Gl X "zip") (hm : X.mg "zip" = none) (ha : PA X [e, e2] ta) (hs : starEach [e, e2] X.env = (false, eval e X.env) :: starEach [e2] X.env := by rfl) (hpl : (backTo pos (starEach [e2] X.env)).any (·.1) = false := by rfl) :
    PI X (.Tuple elts kk tpos) (.Call (.Name "zip" p) [e, e2] [] pos) (iZipM X.K ta) := by
  refine ⟨fun pins s σ H R I h => ?_⟩
  refine Call_ (ld_blt I hg hm boot_zip (callWith_type1 (thn (ha.run pos pins s σ H _ I h) fun us s1 ⟨vs, H1, I1, r1, a, b, xs, ys, ex, hqx, hqy, q⟩ => ?_) hs hpl))
  subst ex
  obtain ⟨u, v, rfl, rfl, rfl⟩ : ∃ u v, us = [u, v] ∧ u = Value.ref a ∧ v = Value.ref b := by
    cases r1 with
    | cons r rr =>
      cases rr with
      | cons r' rr => cases rr; exact ⟨_, _, rfl, r, r'⟩
  obtain ⟨its, rv, p1, _⟩ := I1.tuple hqx
  obtain ⟨its2, rv2, p2, _⟩ := I1.list hqy
  have la : a < s1.heap.objs.size := by obtain ⟨o, e, _⟩ := id p1; exact Heap.lt_size e
  refine zip_begins2 (begins_tuple a its.toArray) (begins_list b its2.toArray) p1 p2.isList fun h' hz hTI hTO h1 h2 hsz hk => wpAny_pyIter_zip hz ?_
  have I2 : Inv X pins σ H1 { s1 with heap := h' } := I1.kept (t' := s1.toks) hk
  have D := PySem.W.ktu_apart s1.heap.objs.size a b la p2.lt
  refine ⟨s1.heap.objs.size + 4, [s1.heap.objs.size + 4, s1.heap.objs.size + 2, s1.heap.objs.size + 3, s1.heap.objs.size, s1.heap.objs.size + 1], _, _, H1, rfl, I2, turn_m D, ⟨hz, hTI, ⟨_, _, hTO⟩, ⟨_, h1, rfl, rfl⟩, ⟨_, h2, rfl, rfl⟩⟩, fun c hm => ?_, q⟩
  have le : s1.heap.objs.size ≤ c := by
    simp only [List.mem_cons, List.not_mem_nil, or_false] at hm
    rcases hm with rfl | rfl | rfl | rfl | rfl
    · exact Nat.le_add_right _ _
    · exact Nat.le_add_right _ _
    · exact Nat.le_add_right _ _
    · exact Nat.le_refl _
    · exact Nat.le_add_right _ _
  exact I1.fpOk le (I1.hok.fresh le)
theorem walk_m {K : PySem.W.Frag} {a b : Addr} {xs ys : List V} {n : Nat} (hn : n = min xs.length ys.length) : Walk (ItzM K a b) n (fun H => SqT K H a xs ∧ SqL K H b ys) (YPair (fun i => xs[i]?) (fun i => ys[i]?)) := by
  subst hn
  refine ⟨fun i H hi q => ?_, fun H q => ⟨xs, ys, q.1, q.2, rfl⟩, fun i H v H' hi q y => ?_⟩
  · exact ⟨xs, ys, _, _, q.1, q.2, List.getElem?_eq_getElem (by omega), List.getElem?_eq_getElem (by omega)⟩
  · obtain ⟨p, x, y, e1, e2, e3, e4, e5⟩ := y
    exact ⟨p, x, y, e1, e2, e3, e4 xs q.1, e5 ys q.2⟩
end ZM

/-! ### len of an object whose class has its own __len__; try with several clauses, named and not -/
namespace L2.MX
open PySem PySem.Spec PyProof.Rows
section
variable {X : Cx} {k : Nat} {C f : Addr} {fd : FuncData} {sp : Sp}
def rLenO (C : Addr) (sp : Sp) : List V → Hp → VK → Prop := fun xs H Q => ∃ (a dx : Addr) (fs : List (Str × V)), xs = [.ref a] ∧ H a = some (.ins C dx fs) ∧ sp [.ref a] H (fun v H2 => ∃ n : Int, v = .int n ∧ (0 ≤ n ∧ n < 2 ^ 63) ∧ Q (.int n) H2) (fun _ _ _ => False)
theorem call_lenO (F : FnOk X.prog X.w X.K X.mg X.base (fun _ _ _ _ _ _ => False) k f fd ["self"] sp) (hr : Room (k + 1) X.A) (hb : Binds X.K fd ["self"] []) (m : Meth X.K C "__len__" f) : CallR X (.builtin "len") (rLenO C sp) := by
  intro pins s σ H xs us Q I r h
  obtain ⟨a, dx, fs, rfl, ea, h⟩ := h
  have r' := r
  rw [Vals.ref1 r]
  obtain ⟨mA, O, _⟩ := ins_get I.hok ea
  obtain ⟨od, J, _⟩ := O.look
  obtain ⟨m', fr⟩ := I.fr
  refine PySem.W.len_K fr I.ok.mod.kin J m.at_ m.fn ?_
  have e0 : Env0 X.prog X.w X.K X.mg X.base X.A.in1 X.stack s H := ⟨I.env0.frames, I.env0.mod, I.env0.bs, I.env0.bsz, I.env0.funs, I.env0.frf, I.env0.hok, I.env0.bare⟩
  have rr : Vals [V.ref a] [Value.ref a] := .cons rfl .nil
  refine wpAny_call (codeAny_mono (F.run X.A.in1 X.stack s H ⟨[.ref a], []⟩ [.ref a] [.ref a] _ _ hr.in1 e0 (by have b := hb s [.ref a] I.kIn rfl; exact b) rr h) fun rs s' hq => ?_)
  cases rs with
  | error e => exact False.elim hq
  | ok fl =>
    cases fl with
    | ret u =>
      obtain ⟨v, H', I', rv, n, rfl, hn, q⟩ := I.after hq
      obtain ⟨t, rfl⟩ := rv
      exact ⟨hn, .int n, H', I'.tok _, ⟨_, rfl⟩, q⟩
    | next => exact False.elim hq
    | brk => exact False.elim hq
    | cont => exact False.elim hq
end
/-- what the suite may end with, its name unbound -/
def wEnds : Option Nat → Ends → Ends
  | none, D => D
  | some i, D => { nx := fun σ H => D.nx (σ.set i none) H, rt := D.rt, bk := fun σ H => D.bk (σ.set i none) H, ct := fun σ H => D.ct (σ.set i none) H }
def wSt : Option Nat → St → Addr → St
  | none, σ, _ => σ
  | some i, σ, a => σ.set i (some (.ref a))
abbrev Cl : Type := Value × Option Nat × (Addr → Value → Option Addr → TS)
def wMix (K : PySem.W.Frag) (Wout : WX) (D : Ends) : List Cl → WX
  | [] => Wout
  | (c, oi, ts) :: r => fun cls d σ H => ∃ b, PySem.W.exmOne K cls c = some b ∧ (b = true → ∀ a, H a = none → ts a cls d (wEnds oi D) (wSt oi σ a) H) ∧ (b = false → wMix K Wout D r cls d σ H)
inductive HdsM (X : Cx) : List ExceptHandler → List Cl → Prop
  | nil : HdsM X [] []
  | plain {x : Str} {c : Value} {ts : Addr → Value → Option Addr → TS} {b₀ : Stmt} {suite : List Stmt} {np pos' : Pos} {hds : List ExceptHandler} {l : List Cl} (hc : Names X x c)
      (hsu : ∀ (a : Addr) (oe : Obj) (cls : Value) (d : Option Addr) (pn : List (Addr × Obj)), Zc cls d oe → (∃ vs, oe.data = .fields vs) → PSs (X.suite a ((a, oe) :: pn)) (b₀ :: suite) (ts a cls d)) (r : HdsM X hds l) :
      HdsM X (.ExceptHandler (some (.Name x np)) none (b₀ :: suite) pos' :: hds) ((c, none, ts) :: l)
  | named {x n : Str} {c : Value} {i : Nat} {ts : Addr → Value → Option Addr → TS} {b₀ : Stmt} {suite : List Stmt} {np pos' : Pos} {hds : List ExceptHandler} {l : List Cl} (hN : X.N.Nodup) (hi : X.N[i]? = some n) (hln : X.env.kindOf n = some .local) (hc : Names X x c)
      (hsu : ∀ (a : Addr) (oe : Obj) (cls : Value) (d : Option Addr) (pn : List (Addr × Obj)), Zc cls d oe → (∃ vs, oe.data = .fields vs) → PSs (X.suite a ((a, oe) :: pn)) (b₀ :: suite) (ts a cls d)) (r : HdsM X hds l) :
      HdsM X (.ExceptHandler (some (.Name x np)) (some n) (b₀ :: suite) pos' :: hds) ((c, some i, ts) :: l)
section
variable {X : Cx} {body : List Stmt} {h₀ : ExceptHandler} {hds : List ExceptHandler} {l : List Cl} {pos : Pos} {tb : WX → TS} {Wout : WX}
theorem ps_try_mix (hs : X.stack = X.env :: X.outer) (hf : X.env.frame = some X.env.locals) (tk : Takes X Wout)
    (hb : ∀ (W : WX) (pn : List (Addr × Obj)) (xe : Value → Shared → Prop), Takes (X.tr pn xe) W → PassesOwn (model X.prog X.w) X.A X.env xe → PSs (X.tr pn xe) body (tb W))
    (hh : HdsM X (h₀ :: hds) l) : PS X (.Try body (h₀ :: hds) [] [] pos) (fun D σ H => tb (wMix X.K Wout D l) D σ H) := by
  refine ⟨fun pins s σ H D I h => ?_⟩
  have ok := I.ok
  have hfr : X.A.frames = some (X.env :: X.outer) := by rw [ok.frames, hs]
  refine wpAny_Try_except ?_
  refine wpAny_mono ((hb (wMix X.K Wout D l) (X.pn ++ pins) (fun e s₁ => wpAny (model X.prog X.w) X.A (noteFrame e X.env) (fun _ s₂ => wpAny (model X.prog X.w) X.A (setFlight e none) (fun _ s₃ =>
    wpAny (model X.prog X.w) X.A (handleBy e X.env (h₀ :: hds)) (SP X pins D) X.xe s₃) X.xe s₂) X.xe s₁) (fun u s' xx => ?_) PassesOwn.looking).run [] s σ H D (I.toTry _) h) (fun f s1 hsp => ?_) (fun e s1 he => he)
  · obtain ⟨a, B, sI, pins', σ', H', cls, d, rfl, J', nb, up, sky, na, os, ag, wi⟩ := xx
    have J : Inv X pins σ' H' sI := J'.ofTry ok
    have sky' : Sky B (X.env :: X.outer) a (Zc cls d) X.env.locals s'.heap := by rw [← hs]; exact sky
    show wpAny (model X.prog X.w) X.A (noteFrame (.ref a) X.env) _ _ _
    refine Sky.land Zc.steady hfr hf sky' fun h3 fl3 up3 => ?_
    have J3 : Inv X pins σ' H' { s' with heap := h3 } := J.landed nb fl3.1 (up.trans up3) os ag
    obtain ⟨oe3, vs3, he3, hz3, hd3⟩ := fl3.there
    have notFr : ∀ {h : Heap} {o : Obj} {vs : Array Value}, h.FunFrames B (X.env :: X.outer) → h.get? a = some o → o.data = .fields vs → a ∉ frs (X.env :: X.outer) := fun {h o vs} ff e dd hm => by
      obtain ⟨_, o', e', hnf⟩ := ff.mem hm
      rw [e] at e'; cases e'
      exact hnf _ dd
    have nfr := notFr fl3.2.2.1 he3 hd3
    have nL : a ≠ X.env.locals := fun z => nfr (List.mem_filterMap.mpr ⟨X.env, List.mem_cons_self, by rw [hf, z]⟩)
    have nF : a ∉ X.fs := fun hm => by
      obtain ⟨e, he, q⟩ := List.mem_filterMap.mp hm
      exact nfr (List.mem_filterMap.mpr ⟨e, List.mem_cons_of_mem _ he, q⟩)
    have S3 := J3.suite he3 hd3 na nL nF
    have LT : PySem.W.Looks (model X.prog X.w) h3 (typeOf (.ref a)) cls := fun A Q E s k q => wpAny_typeOf_ref (k _ _ he3) (by rw [hz3.1]; exact q)
    have test : ∀ {x : Str} {c : Value} {np : Pos} {Q : Value → Shared → Prop} {E : Value → Shared → Prop}, Names X x c → Q c { s' with heap := h3 } → wpAny (model X.prog X.w) (X.A.mark (some (.ref a))) (eval (.Name x np) X.env) Q E { s' with heap := h3 } := fun {x c np Q E} hc q => by
      obtain ⟨hg, hdbg, hm | ⟨hm, hv, hnn⟩⟩ := hc
      · exact ld_glob (X := X.suite a ((a, oe3) :: (X.pn ++ pins))) S3 hg hm q hdbg
      · exact ld_blt (X := X.suite a ((a, oe3) :: (X.pn ++ pins))) S3 hg hm hv q hnn hdbg
    have go : ∀ {hds' : List ExceptHandler} {l' : List Cl}, HdsM X hds' l' → wMix X.K Wout D l' cls d σ' H' →
        wpAny (model X.prog X.w) X.A (handleBy (.ref a) X.env hds') (SP X pins D) X.xe { s' with heap := h3 } := by
      intro hds' l' hk
      induction hk with
      | nil =>
        intro wi
        refine wpAny_handleBy_nil ?_
        obtain ⟨k1, k2, k3, oe, vs, T, oT, ts', he, hz, hd, h1, hr⟩ := id fl3
        unfold PySem.passOn
        refine wpAny_bind (wpAny_field he hd h1 ?_)
        rw [if_neg (show ¬ ((Value.ref T == Value.none) = true) from by simp)]
        have fin : wpAny (model X.prog X.w) X.A (setFlight (.ref a) X.env.frame) (fun _ s4 => wpAny (model X.prog X.w) X.A (throw (.ref a) : Sem Flow) (SP X pins D) X.xe s4) X.xe { s' with heap := h3 } := by
          rw [hf]
          refine HandSPX.setFlight_upZ fl3 fun h4 hh4 up4 => wpAny_throw (tk _ _ ?_)
          exact ⟨a, B, sI, pins, σ', H', cls, d, rfl, J, nb, (up.trans up3).trans up4, .inr (.inr (by rw [hs]; exact hh4)), na, os, ag, wi⟩
        first
          | exact wpAny_bind (wpAny_pure (wpAny_bind fin))
          | exact wpAny_bind fin
      | @plain x c ts b₀ suite np pos' hds2 l2 hc hsu r ih =>
        intro wi
        obtain ⟨b, hb1, hyes, hno⟩ := wi
        refine wpAny_handleBy_cons (codeAny_handlers_test ?_) (by intro q; cases q)
        refine test hc ((PySem.W.exm_one (M := model X.prog X.w) (J3.kIn) LT hb1).here ?_)
        cases b with
        | true =>
          refine codeAny_handlers_suite ?_
          refine HandSPX.lands_againZ fl3 fun h4 fl4 up4 => ?_
          have J4 : Inv X pins σ' H' { s' with heap := h4 } := J.landed nb fl4.1 ((up.trans up3).trans up4) os ag
          obtain ⟨oe4, vs4, he4, hz4, hd4⟩ := fl4.there
          have S4 := J4.suite he4 hd4 na nL nF
          refine wpAny_mono ((hsu a oe4 cls d (X.pn ++ pins) hz4 ⟨_, hd4⟩).run [] _ _ H' _ S4 (hyes rfl a na)) (fun f s6 hsp => ?_) (fun _ _ z => False.elim z)
          cases f with
          | next =>
            obtain ⟨σ6, H6, S6, q6⟩ := hsp
            exact ⟨_, _, S6.unsuite ok, q6⟩
          | brk =>
            obtain ⟨σ6, H6, S6, q6⟩ := hsp
            exact ⟨_, _, S6.unsuite ok, q6⟩
          | cont =>
            obtain ⟨σ6, H6, S6, q6⟩ := hsp
            exact ⟨_, _, S6.unsuite ok, q6⟩
          | ret u =>
            obtain ⟨v6, σ6, H6, S6, r6, q6⟩ := hsp
            exact ⟨_, _, _, S6.unsuite ok, r6, q6⟩
        | false =>
          show wpAny _ X.A (handleBy (.ref a) X.env hds2) _ _ _
          exact ih (hno rfl)
      | @named x n c i ts b₀ suite np pos' hds2 l2 hN hi hln hc hsu r ih =>
        intro wi
        obtain ⟨b, hb1, hyes, hno⟩ := wi
        refine wpAny_handleBy_cons (codeAny_handlers_test ?_) (by intro q; cases q)
        refine test hc ((PySem.W.exm_one (M := model X.prog X.w) (J3.kIn) LT hb1).here ?_)
        cases b with
        | true =>
          refine codeAny_handlers_suite_as ?_
          refine HandSPX.lands_againZ fl3 fun h4 fl4 up4 => ?_
          have J4 : Inv X pins σ' H' { s' with heap := h4 } := J.landed nb fl4.1 ((up.trans up3).trans up4) os ag
          obtain ⟨oe4, vs4, he4, hz4, hd4⟩ := fl4.there
          have S4 := J4.suite he4 hd4 na nL nF
          refine store_ok (X := X.suite a ((a, oe4) :: (X.pn ++ pins))) (v := .ref a) S4 hN hi (.inl hln) rfl (fun s5 S5 => ?_) (.inr hln)
          refine wpAny_mono ((hsu a oe4 cls d (X.pn ++ pins) hz4 ⟨_, hd4⟩).run [] s5 _ H' _ S5 (hyes rfl a na)) (fun f s6 hsp => ?_) (fun _ _ z => False.elim z)
          have end_ : ∀ {σ6 : St} {H6 : Hp} {Q : Shared → Prop}, Inv (X.suite a ((a, oe4) :: (X.pn ++ pins))) [] σ6 H6 s6 → (∀ s7, Inv X pins (σ6.set i none) H6 s7 → Q s7) →
              wpAny (model X.prog X.w) X.A (do bindName X.env n .none; unbindBehindTheSuite X.env n pos') (fun _ s7 => Q s7) X.xe s6 := fun {σ6 H6 Q} S6 hq => gone_ok (S6.unsuite ok) hN hi hln hq
          cases f with
          | next =>
            obtain ⟨σ6, H6, S6, q6⟩ := hsp
            exact end_ S6 fun s7 J7 => ⟨_, _, J7, q6⟩
          | brk =>
            obtain ⟨σ6, H6, S6, q6⟩ := hsp
            exact end_ S6 fun s7 J7 => ⟨_, _, J7, q6⟩
          | cont =>
            obtain ⟨σ6, H6, S6, q6⟩ := hsp
            exact end_ S6 fun s7 J7 => ⟨_, _, J7, q6⟩
          | ret u =>
            obtain ⟨v6, σ6, H6, S6, r6, q6⟩ := hsp
            exact end_ S6 fun s7 J7 => ⟨_, _, _, J7, r6, q6⟩
        | false =>
          show wpAny _ X.A (handleBy (.ref a) X.env hds2) _ _ _
          exact ih (hno rfl)
    exact go hh wi
  · cases f with
    | next =>
      obtain ⟨σ', H', J', q⟩ := hsp
      exact wpAny_execs_nil ⟨σ', H', J'.ofTry ok, q⟩
    | brk =>
      obtain ⟨σ', H', J', q⟩ := hsp
      exact ⟨σ', H', J'.ofTry ok, q⟩
    | cont =>
      obtain ⟨σ', H', J', q⟩ := hsp
      exact ⟨σ', H', J'.ofTry ok, q⟩
    | ret u =>
      obtain ⟨v, σ', H', J', r, q⟩ := hsp
      exact ⟨v, σ', H', J'.ofTry ok, r, q⟩
end
/-! ### a method, a class called in a try's body: what is let out is told with the slots -/
def tMethE (C : Addr) (m : Str) (sp : Sp) (dvs : List V) (E : St → XK) (ta : TE) (t : TA) : TE := fun σ H Q => ta σ H fun x H1 => ∃ a dx fs, x = .ref a ∧ H1 a = some (.ins C dx fs) ∧ fs.lookup m = none ∧ t σ H1 fun vs H2 => sp (.ref a :: (vs ++ dvs)) H2 Q (E σ)
section
variable {X : Cx} {CX : CXT} {k : Nat} {f C : Addr} {fd : FuncData} {ps : List Str} {sp : Sp} {dvs : List V} {ds : List Value} {E : St → XK} {x m : Str} {p pos apos : Pos} {e o : Expr} {es : List Expr} {ta : TE} {t : TA}
theorem pe_methE {pl : Sem Bool} (he : PE X o ta) (c : Cls X.K C) (hm : Meth X.K C m f) (F : FnOk X.prog X.w X.K X.mg X.base CX k f fd ps sp) (hr : Room k X.A) (hb : Binds X.K fd ps ds) (hd : Vals dvs ds) (hx : ∀ σ, PassesAt CX X σ (E σ)) (ha : PA X (e :: es) t)
    (hst : starEach (e :: es) X.env = (false, eval e X.env) :: starEach es X.env := by rfl) (hpl : (backTo pos (starEach es X.env)).any (·.1) = false := by rfl)
    (ht : eval (.Call (.Attribute o m apos) (e :: es) [] pos) X.env = (do
      let ov ← eval o X.env
      standAt apos.atName
      let (f, first) ← holding [ov] (getMethod ov m pl)
      callWith pos f first (backTo pos (starEach (e :: es) X.env)) (backToKw pos (keywordEach [] X.env))) := by rfl) :
    PE X (.Call (.Attribute o m apos) (e :: es) [] pos) (tMethE C m sp dvs E ta t) := by
  refine ⟨fun pins s σ H Q I h => ?_⟩
  refine PySem.W.methodCall_KW (pl := pl) (thn (he.run pins s σ H _ I h) fun u s1 ⟨x, H1, I1, rx, a, dx, fs, ex, ea, l, q⟩ => ?_) ht
  subst ex
  obtain rfl : u = Value.ref a := rx
  refine getmeth_ok I1 ea c hm l ?_
  refine PySem.W.callWith_K (first := [.ref a]) (h₀ := X.base) I.ok.mod.kin hm.kp (thn (ha.run pos pins s1 σ H1 _ I1 q) fun us s2 ⟨vs, H2, I2, r, q2⟩ => ⟨I2.kIn, ?_⟩) hst hpl
  exact run_fnSD (us := .ref a :: us) (vs := .ref a :: vs) F hr hb hd (hx σ) I2 (.cons rfl r) q2
/-- C(k = v, ..) -/
def tMakeE (C : Addr) (n m : Nat) (sp : Sp) (gV : List V → List V → List V) (E : St → XK) (t tk : TA) : TE := fun σ H Q => t σ H fun vs H1 => tk σ H1 fun zs H2 => vs.length = n ∧ zs.length = m ∧ ∀ x dx, H2 x = none → H2 dx = none → dx ≠ x →
  sp (gV (.ref x :: vs) zs) (upd (upd H2 dx (.own x)) x (.ins C dx [])) (fun v H3 => v = .non ∧ Q (.ref x) H3) (E σ)
variable {n : Nat} {ks : List Str} {kws : List Keyword} {tk : TA} {g : List Value → List Value → List Value} {gV : List V → List V → List V}
theorem pe_makeE0 (M : Mk X.K C f) (F : FnOk X.prog X.w X.K X.mg X.base CX k f fd ps sp) (hr : Room (k + 1) X.A) (hg : Gl X x) (hm : X.mg x = some (.ref C)) (hb : KBn X.K fd ps 1 ks g gV) (hx : ∀ σ, PassesAt CX X σ (E σ)) (hkw : PK X kws tk)
    (hall : (backToKw pos (keywordEach kws X.env)).all (·.1.isSome) = true := by rfl) (hks : (backToKw pos (keywordEach kws X.env)).filterMap (·.1) = ks := by rfl) (hdb : (x == ("__debug__" : Str)) = false := by decide)
    (hpl : ((backTo pos (starEach [] X.env)).any (·.1) || (backToKw pos (keywordEach kws X.env)).any (·.1.isNone)) = false := by rfl) :
    PE X (.Call (.Name x p) [] kws pos) (tMakeE C 0 ks.length sp gV E tNil tk) := by
  refine ⟨fun pins s σ H Q I h => ?_⟩
  refine wpAny_Call_Name_kw (ld_glob I hg hm ?_ hdb)
  refine PySem.W.callWith_KW0 (h₀ := X.base) I.ok.mod.kin M.kp hall ?_ hpl
  refine thn (hkw.run pos pins s σ H _ I h) fun ws s2 ⟨zs, H2, I2, rz, l1, l2, q2⟩ => ⟨I2.kIn, ?_⟩
  rw [hks]
  have hq := q2 (s2.heap.objs.size + 1) s2.heap.objs.size (I2.hok.fresh (Nat.le_succ _)) (I2.hok.fresh (Nat.le_refl _)) (Nat.ne_of_lt (Nat.lt_succ_self _))
  have I3 := Inv.made (C := C) I2
  have r1 : Vals [V.ref (s2.heap.objs.size + 1)] [Value.ref (s2.heap.objs.size + 1)] := .cons rfl .nil
  have r2 := hb.rel r1 rz
  refine wpAny_call (make_map (f := f) I2.kIn M.makes M.init (beq_iff_eq.mp M.fn) (codeAny_mono (F.run _ X.stack _ _ ⟨[Value.ref (s2.heap.objs.size + 1)], ks.zip ws⟩ (g [Value.ref (s2.heap.objs.size + 1)] ws) _ _ (E σ) (hr.make C [] (ks.zip ws))
    (I3.env0.make C [] (ks.zip ws)) (hb.to _ [Value.ref (s2.heap.objs.size + 1)] ws I3.kIn rfl (rz.length.symm.trans l2)) r2 hq) fun r s' hq' => ?_))
  cases r with
  | error e => exact hx σ pins _ _ e s' I3 hq'
  | ok fl =>
    cases fl with
    | ret u =>
      obtain ⟨v, H', I4, rv, ev, q3⟩ := I3.after hq'
      subst ev
      exact ⟨rv, ⟨V.ref (s2.heap.objs.size + 1), H', I4, rfl, q3⟩⟩
    | next => exact False.elim hq'
    | brk => exact False.elim hq'
    | cont => exact False.elim hq'
end
end L2.MX

/-! ### promises that know that no repr is under way; repr of data within them -/
namespace L2.GD
open PySem PySem.Spec PyProof.Rows
abbrev C0 : CXT := fun _ _ _ _ _ _ => False
structure FnOkG (P : Program) (w : World) (K : PySem.W.Frag) (mg : Str → Option Value) (base : Heap) (k : Nat) (f : Addr) (fd : FuncData) (ps : List Str) (sp : Sp) : Prop where
  len : ∀ vs H Q E, sp vs H Q E → vs.length = ps.length
  run : ∀ (A : Around) (outer : List Env) (s : Shared) (H : Hp) (args : Args) (us : List Value) (vs : List V) (Q : VK) (E : XK), A.guards = some [] → Room k A → Env0 P w K mg base A outer s H → BindsTo s fd args (ps.zip us) → Vals vs us → sp vs H Q E →
    codeAny (model P w) A (.call (.ref f) args) (CR C0 outer P w H s Q E) s
section
variable {P : Program} {w : World} {K : PySem.W.Frag} {mg : Str → Option Value} {base : Heap}
/-- the body is walked in a room free of reprs -/
theorem okG {x qual : Str} {st : Stmt} {f : Addr} {fd : FuncData} {N ps : List Str} {k : Nat} {sp : Sp} (F : Fun K x qual st f fd) (S : FnScope N ps (defScope st)) (len : ∀ vs H Q E, sp vs H Q E → vs.length = ps.length)
    (hbody : ∀ (cdv : Value) (A : Around) (outer : List Env) (s : Shared) (H : Hp) (vs : List V) (Q : VK) (E : XK), A.guards = some [] → Room k (A.deeper (envOfC qual (defScope st) s.heap.objs.size f cdv)) → sp vs H Q E →
      ∃ t, PSs (cxOf C0 P w K mg base N qual (defScope st) f cdv A outer s H E).nox (defBody st) t ∧ t { nx := fun _ H' => Q .non H', rt := Q } (start N vs) H) : FnOkG P w K mg base (k + 1) f fd ps sp := by
  obtain ⟨oc, od, kV, doc, pm, an, cdv, ct, osl, rfl, lk, hcd⟩ := F.ex
  refine ⟨len, fun A outer s H args us vs Q E hg hr e0 hb r hsp => ?_⟩
  have hl := len _ _ _ _ hsp
  have KX : K.In s.heap := e0.mod.kin.keeps fun b o e => (e0.bs b o e).1
  have lim : s.heap.NoLimit := e0.mod.nolimit.keeps fun b o e => (e0.bs b o e).1
  have hkind : ∀ y ∈ ps.zip us, (defScope st).names.lookup y.1 = some .local ∨ ((defScope st).names.lookup y.1 = some .cell ∧ ((cellsFrom (s.heap.objs.size + 1) (defScope st).names []).lookup y.1).isSome = true) := fun y hy => by
    rcases S.par y.1 (List.of_mem_zip (a := y.1) (b := y.2) hy).1 with q | q
    · exact .inl q
    · exact .inr ⟨q, PySem.W.cellsFrom_some _ _ _ (.inl q)⟩
  refine codeAny_call_function hr.depth (KX _ _ lk) rfl S.co S.gen rfl (PySem.W.codeRec_of KX hcd) (hb _ _ _ _ ?_)
  refine wpAny_newFunctionEnv_cells S.kind hkind fun env he s1 x => ?_
  subst he
  refine ⟨lim.keeps x.toInCall.keep, codeAny_func ?_⟩
  obtain ⟨t, ht, hq⟩ := hbody cdv A outer s H vs Q E hg (hr.deeper _) hsp
  have I := inv_start (CX := C0) (P := P) (w := w) (mg := mg) (qual := qual) (f := f) (cd := cdv) (A := A) (E := E) S hr.hd e0 hl r x
  refine wpAny_mono (ht.nox.run [] s1 (start N vs) H _ I hq) (fun fl s' hs => ?_) fun e s' hs => hs
  have fin : ∀ {σ' : St} {H' : Hp} {v : V} {u : Value}, Inv (cxOf C0 P w K mg base N qual (defScope st) f cdv A outer s H E) [] σ' H' s' → RelV v u → Q v H' → CE outer P w H s Q u s' :=
    fun {σ' H' v u} J rv q => ⟨v, H', J.os, J.bare, J.base, J.hok, rv, q⟩
  cases fl with
  | ret u =>
    obtain ⟨v, σ', H', J, rv, q⟩ := hs
    exact fin J rv q
  | next =>
    obtain ⟨σ', H', J, q⟩ := hs
    exact fin (v := V.non) (u := Value.none) J rfl q
  | brk =>
    obtain ⟨_, _, _, q⟩ := hs
    exact False.elim q
  | cont =>
    obtain ⟨_, _, _, q⟩ := hs
    exact False.elim q
end
section
variable {X : Cx} {k : Nat} {f : Addr} {fd : FuncData} {ps : List Str} {sp : Sp} {dvs : List V} {ds : List Value} {x : Str} {p pos : Pos} {e : Expr} {es : List Expr} {t : TA}
/-- such a def is called where no repr is under way -/
theorem pe_callG (hgd : X.A.guards = some []) (F : FnOkG X.prog X.w X.K X.mg X.base k f fd ps sp) (hr : Room k X.A) (hg : Gl X x) (hm : X.mg x = some (.ref f)) (hk : PySem.W.keepIn X.K (.ref f) = true) (hb : Binds X.K fd ps ds) (hd : Vals dvs ds)
    (ha : PA X (e :: es) t) (hdb : (x == ("__debug__" : Str)) = false := by decide) (he : starEach (e :: es) X.env = (false, eval e X.env) :: starEach es X.env := by rfl) (hpl : (backTo pos (starEach es X.env)).any (·.1) = false := by rfl) :
    PE X (.Call (.Name x p) (e :: es) [] pos) (tCall sp dvs (fun _ _ _ => False) t) := by
  refine ⟨fun pins s σ H Q I h => ?_⟩
  refine wpAny_Call_Name_kw (ld_glob I hg hm ?_ hdb)
  refine PySem.W.callWith_K (h₀ := X.base) I.ok.mod.kin hk (thn (ha.run pos pins s σ H _ I h) fun us s2 ⟨vs, H2, I2, r, q⟩ => ⟨I2.kIn, ?_⟩) he hpl
  have r2 : Vals (vs ++ dvs) (us ++ ds) := r.append hd
  have hl : (us ++ ds).length = ps.length := by rw [← r2.length]; exact F.len _ _ _ _ q
  refine wpAny_call (codeAny_mono (F.run X.A X.stack s2 H2 ⟨us, []⟩ (us ++ ds) (vs ++ dvs) Q _ hgd hr I2.env0 (hb s2 us I2.kIn hl) r2 q) fun rs s' hq => ?_)
  cases rs with
  | error e => exact False.elim hq
  | ok fl =>
    cases fl with
    | ret u => exact I2.after hq
    | next => exact False.elim hq
    | brk => exact False.elim hq
    | cont => exact False.elim hq
/-- repr of data -/
def rReprD (K : PySem.W.Frag) : List V → Hp → VK → Prop := fun xs H Q => ∃ (x : V) (d : PyData), xs = [x] ∧ Dp K H x d ∧ d.showable = true ∧ d.hasDict = false ∧ d.depth ≤ 60 ∧ d.shown.length ≤ 1000000 ∧ Q (.str d.shown) H
theorem call_reprD (hgd : X.A.guards = some []) (hu : X.A.units + 64 < cLine) : CallR X (.builtin "repr") (rReprD X.K) := by
  intro pins s σ H xs us Q I r h
  obtain ⟨x, d, rfl, hd, hs, hn, hdp, hz, q⟩ := h
  obtain ⟨u, rfl, rx⟩ := vals1 r
  have hsz : d.shown.length ≤ sizeLine := Nat.le_trans hz (by rw [sizeLine_eq]; decide)
  cases hd with
  | non =>
    obtain rfl : u = Value.none := rx
    exact PySem.P.repr_of_none ⟨.str _, H, I.tok _, ⟨_, rfl⟩, q⟩
  | bl b =>
    obtain rfl : u = Value.bool b := rx
    exact PySem.P.repr_of_bool ⟨.str _, H, I.tok _, ⟨_, rfl⟩, q⟩
  | int i =>
    obtain ⟨t, rfl⟩ := rx
    exact PySem.P.repr_of_int (by simpa [PyData.showable] using hs) ⟨.str _, H, I.tok _, ⟨_, rfl⟩, q⟩
  | str z =>
    obtain ⟨t, rfl⟩ := rx
    exact PySem.P.repr_of_str (hsz := hsz) ⟨.str _, H, I.tok _, ⟨_, rfl⟩, q⟩
  | lst h1 h2 =>
    rename_i a ys es
    obtain rfl : u = Value.ref a := rx
    obtain ⟨as, rd⟩ := Dp.reads I _ _ _ (Dp.lst h1 h2) (show RelV (V.ref a) (Value.ref a) from rfl)
    refine repr_of_reads' rd hs (fun e => by rw [hn] at e; cases e) hgd (by omega) (fun _ _ e => e) (fun h' u' tk hk => ?_) hsz
    exact ⟨.str _, H, I.kept (t' := tk) hk, ⟨_, rfl⟩, q⟩
  | tup h1 h2 =>
    rename_i a ys es
    obtain rfl : u = Value.ref a := rx
    obtain ⟨as, rd⟩ := Dp.reads I _ _ _ (Dp.tup h1 h2) (show RelV (V.ref a) (Value.ref a) from rfl)
    refine repr_of_reads' rd hs (fun e => by rw [hn] at e; cases e) hgd (by omega) (fun _ _ e => e) (fun h' u' tk hk => ?_) hsz
    exact ⟨.str _, H, I.kept (t' := tk) hk, ⟨_, rfl⟩, q⟩
end
/-- the law's promise, at the heap behind the top: where it is called no repr is under way -/
theorem law_callG {P : Program} {w : World} {K : PySem.W.Frag} {mg mb : Str → Option Value} {k : Nat} {fa a : Addr} {fd : FuncData} {x : Str} {sp : Sp} {s₁ : Shared} {vs : List Value} {ns : List Int}
    (KX : K.In s₁.heap) (hns : s₁.heap.Ns mainGlobals mg) (hb : s₁.heap.Ns builtinsNs mb) (hbb : ∀ x : Str, x ≠ "__name__" → mb x = bootBuiltins x) (hlim : s₁.heap.NoLimit) (hg : s₁.gens = #[])
    (ha : s₁.heap.get? a = some { cls := .type "list", data := .seq vs.toArray }) (hi : IntsAre vs ns) (hl : ns.length ≤ sizeLine) (hr : Room k callerA)
    (F : ∀ base : Heap, K.In base → base.Ns mainGlobals mg → FnOkG P w K mg base k fa fd [x] sp) (hbind : ∀ (s : Shared) (u : Value), BindsTo s fd ⟨[u], []⟩ [(x, u)])
    (hsp : ∀ H : Hp, Only H → SqL K H a (ns.map V.int) → sp [.ref a] H (fun v _ => v = .bl true) fun _ _ _ => False) :
    codeAny (model P w) callerA (.call (.ref fa) ⟨[.ref a], []⟩) (fun r s' => r = .ok (.ret (.bool true)) ∧ OldK s₁.heap s'.heap ∧ s'.os = s₁.os ∧ AllBare s'.gens) s₁ := by
  have rv := vals_ints hi
  have core : ∀ H : Hp, Only H → SqL K H a (ns.map V.int) → HOk P w H s₁.heap → (∀ b, H b ≠ none → b = a) → (H a ≠ none → K.lookup a = none) →
      codeAny (model P w) callerA (.call (.ref fa) ⟨[.ref a], []⟩) (fun r s' => r = .ok (.ret (.bool true)) ∧ OldK s₁.heap s'.heap ∧ s'.os = s₁.os ∧ AllBare s'.gens) s₁ := by
    intro H hO hS hok hA hK
    -- no dict is tracked, nothing of the module's is
    have free : ∀ {b : Addr} {o : Obj}, s₁.heap.get? b = some o → ((∃ es ep, o.data = .dict es ep) ∨ K.lookup b = some o) → H b = none := fun {b o} e z => by
      cases q : H b with
      | none => rfl
      | some u =>
        have e' : b = a := hA b (by rw [q]; simp)
        subst e'
        rcases z with ⟨es, ep, d⟩ | z
        · rw [ha] at e; cases e; cases (show Data.seq vs.toArray _ = Data.dict es ep from d)
        · rw [hK (by rw [q]; simp)] at z; cases z
    have ns_ : ∀ {b : Addr} {m : Str → Option Value}, s₁.heap.Ns b m → (hidT s₁.heap H).Ns b m := fun {b m} ⟨o, es, ep, e, d, r⟩ => ⟨o, es, ep, hidT_get e (free e (.inl ⟨es, ep, d⟩)), d, r⟩
    have hKb : K.In (hidT s₁.heap H) := fun b o e => hidT_get (KX b o e) (free (KX b o e) (.inr e))
    obtain ⟨mc, l1, l2⟩ := hlim
    have hM : Mod K mg (hidT s₁.heap H) := ⟨hKb, ns_ hns, ⟨mb, ns_ hb, hbb⟩, mc, ns_ l1, l2⟩
    have e0 : Env0 P w K mg (hidT s₁.heap H) callerA [] s₁ H := ⟨rfl, hM, fun b o e => of_hidT e, Nat.le_of_eq (hidT_size _ _), trivial, fun b hb => absurd (show b ∈ ([] : List Addr) from hb) (by simp), hok, .of_eq hg⟩
    refine codeAny_mono ((F _ hKb (ns_ hns)).run callerA [] s₁ H ⟨[.ref a], []⟩ [.ref a] [.ref a] _ _ rfl hr e0 (hbind s₁ (.ref a)) (.cons rfl .nil) (hsp H hO hS)) fun r s' h => ?_
    cases r with
    | error e => exact False.elim h
    | ok fl =>
      cases fl with
      | next => exact False.elim h
      | brk => exact False.elim h
      | cont => exact False.elim h
      | ret u =>
        obtain ⟨v, H', os, bare, un, hok', r', q⟩ := h
        have q' : v = .bl true := q
        subst q'
        obtain rfl : u = Value.bool true := r'
        refine ⟨rfl, OldK.of_keep fun b o e => ?_, os, bare⟩
        rcases hO b with z | ⟨ob, xs, z⟩
        · exact un.keep b o e z (by intro z; exact absurd (show b ∈ ([] : List Addr) from z) (by simp)) (by simp)
        · obtain ⟨e1, _⟩ := hok b _ z
          obtain ⟨e2, _⟩ := hok' b _ (un.frzs b ob _ z)
          rw [e] at e1; cases e1
          exact e2
  cases hk : K.lookup a with
  | some o =>
    have e := KX a o hk
    rw [ha] at e
    cases e
    refine core (fun _ => none) (fun _ => .inl rfl) (.inr ⟨_, vs.toArray, _, hk, rfl, rfl, rfl, by rw [List.size_toArray, hi.length]; exact hl, by simpa using rv⟩) (fun b u z => by cases (show (none : Option HO) = some u from z)) (fun b z => absurd rfl z) fun z => absurd rfl z
  | none =>
    refine core (fun b => if b = a then some (.frz { cls := .type "list", data := .seq vs.toArray } (.lst (ns.map V.int))) else none) (fun b => ?_) (.inl (.inr ⟨{ cls := .type "list", data := .seq vs.toArray }, if_pos rfl⟩)) (fun b u z => ?_) (fun b z => ?_) fun _ => hk
    · by_cases hb : b = a
      · exact .inr ⟨_, _, if_pos hb⟩
      · exact .inl (if_neg hb)
    · by_cases hb : b = a
      · cases (if_pos hb).symm.trans z
        subst hb
        exact ⟨ha, by rw [List.length_map]; exact hl, vs, _, rv, ha⟩
      · cases (if_neg hb).symm.trans z
    · by_cases hb : b = a
      · exact hb
      · exact absurd (if_neg hb) z
theorem walk_ofG {l : PySem.W.OpenLaw} {n k : Nat} {q : Program} {loose : List Str} {XP : (Str → Option Value) → Heap → Prop} {YP : World → Heap → Prop} {d : DefRec} {K : Params → PySem.W.Frag} {sp : World → Sp} {x : Str}
    (hn : l.most = some n) (hn2 : n ≤ sizeLine) (hdf : d.params.defaults = []) (hr : Room k callerA)
    (hY : ∀ (w : World) (h : Heap), YP w h → (K w.params).In h)
    (F : ∀ (w : World) (mg : Str → Option Value) (fa : Addr) (h : Heap), (K w.params).In h → h.Ns mainGlobals mg → mg d.name = some (.ref fa) →
      ∃ fd : FuncData, (∀ (s : Shared) (u : Value), BindsTo s fd ⟨[u], []⟩ [(x, u)]) ∧ ∀ base : Heap, (K w.params).In base → base.Ns mainGlobals mg → FnOkG l.prog w (K w.params) mg base k fa fd [x] (sp w))
    (hsp : ∀ (w : World) (H : Hp) (a : Addr) (ns : List Int), ns.length ≤ n → Only H → SqL (K w.params) H a (ns.map V.int) → sp w [.ref a] H (fun v _ => v = .bl true) fun _ _ _ => False) :
    PySem.W.WalkO q loose XP YP l.row.toRowW d [] (fun f vs => PySem.call f vs) := by
  refine Att.attach_call hn hdf fun w s₀ s₁ mg mb fa o pm cd doc a vs ns G Y ho hd hcd hmg hobj hints hlen hg => ?_
  have KX := hY w _ Y
  obtain ⟨fd, hb, hF⟩ := F w mg fa _ KX G.T.g hmg
  exact law_callG KX G.T.g G.T.b G.T.builtins G.T.nolimit hg hobj hints (Nat.le_trans hlen hn2) hr hF hb (fun H hO hS => hsp w H a ns hlen hO hS)
end L2.GD

/-! ## values without addresses: data that never change again, beside few objects that do -/
namespace L2.VW
open PySem PySem.Spec PyProof.Rows
/-- a value: data in full, or the address of an object that may still change -/
inductive D where
  | non | bl (b : Bool) | int (i : Int) | str (z : Str) | byt (b : Array UInt8) | flt (b : UInt64) | ref (a : Addr) | ty (n : String)
  | lst (xs : List D) | tup (xs : List D) | dK (kvs : List (Key × D)) | dT (kvs : List (List Key × D)) | ins (C : Addr) (fs : List (Str × D)) | seq (xs : List D)
def toD : V → D
  | .non => .non | .bl b => .bl b | .int i => .int i | .str z => .str z | .byt b => .byt b | .flt b => .flt b | .ref a => .ref a | .ty n => .ty n
/-- what stands at the address of an object that may change -/
inductive HD where
  | lst (xs : List D) | dK (kvs : List (Key × D)) | dT (kvs : List (List Key × D)) | ins (C : Addr) (fs : List (Str × D))
abbrev Sto := Addr → Option HD
def sup (S : Sto) (a : Addr) (o : HD) : Sto := fun b => if b = a then some o else S b
def sdel (S : Sto) (a : Addr) : Sto := fun b => if b = a then none else S b
section
variable {S : Sto} {a b : Addr} {o u : HD}
theorem sup_same : sup S a o a = some o := by unfold sup; rw [if_pos rfl]
theorem sup_ne (h : b ≠ a) : sup S a o b = S b := by unfold sup; rw [if_neg h]
theorem sup_sup : sup (sup S a o) a u = sup S a u := by funext b; unfold sup; split <;> rfl
theorem sdel_same : sdel S a a = none := by unfold sdel; rw [if_pos rfl]
theorem sdel_ne (h : b ≠ a) : sdel S a b = S b := by unfold sdel; rw [if_neg h]
theorem sdel_sup (h : S a = none) : sdel (sup S a o) a = S := by
  funext b; unfold sdel sup
  by_cases e : b = a
  · rw [if_pos e, e, h]
  · rw [if_neg e, if_neg e]
theorem sup_self (h : S a = some o) : sup S a o = S := by
  funext b; unfold sup
  by_cases e : b = a
  · rw [if_pos e, e, h]
  · rw [if_neg e]
theorem sne_of (h : S a = some o) (h' : S b = none) : a ≠ b := fun e => by rw [e, h'] at h; cases h
end
mutual
inductive Vd (K : PySem.W.Frag) (F : Hp) : V → D → Prop
  | non : Vd K F .non .non
  | bl (b : Bool) : Vd K F (.bl b) (.bl b)
  | int (i : Int) : Vd K F (.int i) (.int i)
  | str (z : Str) : Vd K F (.str z) (.str z)
  | byt (b : Array UInt8) : Vd K F (.byt b) (.byt b)
  | flt (b : UInt64) : Vd K F (.flt b) (.flt b)
  | ref (a : Addr) : Vd K F (.ref a) (.ref a)
  | ty (n : String) : Vd K F (.ty n) (.ty n)
  | lst {a : Addr} {xs : List V} {ds : List D} : F a = some (.lst xs) → VdAll K F xs ds → Vd K F (.ref a) (.lst ds)
  | seq {a : Addr} {xs : List V} {ds : List D} : SqL K F a xs → VdAll K F xs ds → Vd K F (.ref a) (.seq ds)
  | tup {a : Addr} {xs : List V} {ds : List D} : F a = some (.tup xs) → VdAll K F xs ds → Vd K F (.ref a) (.tup ds)
  | dK {a : Addr} {o : Obj} {kvs : List (Key × V)} {kds : List (Key × D)} : F a = some (.frz o (.dK kvs)) → kvs.map (·.1) = kds.map (·.1) → VdAll K F (kvs.map (·.2)) (kds.map (·.2)) → Vd K F (.ref a) (.dK kds)
  | dT {a : Addr} {o : Obj} {kvs : List (List Key × V)} {kds : List (List Key × D)} : F a = some (.frz o (.dT kvs)) → kvs.map (·.1) = kds.map (·.1) → VdAll K F (kvs.map (·.2)) (kds.map (·.2)) → Vd K F (.ref a) (.dT kds)
  | ins {a C dx : Addr} {fs : List (Str × V)} {ds : List (Str × D)} : F a = some (.ins C dx fs) → fs.map (·.1) = ds.map (·.1) → VdAll K F (fs.map (·.2)) (ds.map (·.2)) → Vd K F (.ref a) (.ins C ds)
inductive VdAll (K : PySem.W.Frag) (F : Hp) : List V → List D → Prop
  | nil : VdAll K F [] []
  | cons {v : V} {vs : List V} {d : D} {ds : List D} : Vd K F v d → VdAll K F vs ds → VdAll K F (v :: vs) (d :: ds)
end
section
variable {K : PySem.W.Frag} {F F' : Hp}
theorem sqT_mono {a : Addr} {xs : List V} (s : Same F F') (h : SqT K F a xs) : SqT K F' a xs := by
  rcases h with (e | ⟨o, e⟩) | e
  · exact .inl (.inl (s _ _ e))
  · exact .inl (.inr ⟨o, s _ _ e⟩)
  · exact .inr e
mutual
theorem Vd.mono (s : Same F F') : ∀ {v : V} {d : D}, Vd K F v d → Vd K F' v d
  | _, _, .non => .non
  | _, _, .bl b => .bl b
  | _, _, .int b => .int b
  | _, _, .str b => .str b
  | _, _, .byt b => .byt b
  | _, _, .flt b => .flt b
  | _, _, .ref b => .ref b
  | _, _, .ty b => .ty b
  | _, _, .lst h t => .lst (s _ _ h) (VdAll.mono s t)
  | _, _, .seq h t => .seq (s.seq h) (VdAll.mono s t)
  | _, _, .tup h t => .tup (s _ _ h) (VdAll.mono s t)
  | _, _, .dK h e t => .dK (s _ _ h) e (VdAll.mono s t)
  | _, _, .dT h e t => .dT (s _ _ h) e (VdAll.mono s t)
  | _, _, .ins h e t => .ins (s _ _ h) e (VdAll.mono s t)
theorem VdAll.mono (s : Same F F') : ∀ {vs : List V} {ds : List D}, VdAll K F vs ds → VdAll K F' vs ds
  | _, _, .nil => .nil
  | _, _, .cons a t => .cons (Vd.mono s a) (VdAll.mono s t)
end
theorem Vd.to (v : V) : Vd K F v (toD v) := by cases v <;> constructor
theorem VdAll.len : ∀ {vs : List V} {ds : List D}, VdAll K F vs ds → vs.length = ds.length
  | _, _, .nil => rfl
  | _, _, .cons _ t => congrArg (· + 1) t.len
theorem VdAll.get : ∀ {vs : List V} {ds : List D} {i : Nat} {d : D}, VdAll K F vs ds → ds[i]? = some d → ∃ v, vs[i]? = some v ∧ Vd K F v d
  | _, _, _, _, .nil, e => by simp at e
  | _, _, 0, _, .cons a _, e => by simp at e; subst e; exact ⟨_, rfl, a⟩
  | _, _, i + 1, d, .cons _ t, e => by
    obtain ⟨v, h1, h2⟩ := VdAll.get (i := i) (d := d) t (by simpa using e)
    exact ⟨v, by simpa using h1, h2⟩
theorem VdAll.getL : ∀ {vs : List V} {ds : List D} {i : Nat} {v : V}, VdAll K F vs ds → vs[i]? = some v → ∃ d, ds[i]? = some d ∧ Vd K F v d
  | _, _, _, _, .nil, e => by simp at e
  | _, _, 0, _, .cons a _, e => by simp at e; subst e; exact ⟨_, rfl, a⟩
  | _, _, i + 1, v, .cons _ t, e => by
    obtain ⟨d, h1, h2⟩ := VdAll.getL (i := i) (v := v) t (by simpa using e)
    exact ⟨d, by simpa using h1, h2⟩
theorem VdAll.app : ∀ {xs ys : List V} {ds es : List D}, VdAll K F xs ds → VdAll K F ys es → VdAll K F (xs ++ ys) (ds ++ es)
  | _, _, _, _, .nil, s => s
  | _, _, _, _, .cons a t, s => .cons a (VdAll.app t s)
theorem VdAll.take : ∀ {xs : List V} {ds : List D} (n : Nat), VdAll K F xs ds → VdAll K F (xs.take n) (ds.take n)
  | _, _, 0, _ => .nil
  | _, _, _ + 1, .nil => .nil
  | _, _, n + 1, .cons a t => .cons a (VdAll.take n t)
theorem VdAll.drop : ∀ {xs : List V} {ds : List D} (n : Nat), VdAll K F xs ds → VdAll K F (xs.drop n) (ds.drop n)
  | _, _, 0, r => r
  | _, _, _ + 1, .nil => .nil
  | _, _, n + 1, .cons _ t => VdAll.drop n t
theorem VdAll.set {v : V} {d : D} (a : Vd K F v d) : ∀ {xs : List V} {ds : List D} (i : Nat), VdAll K F xs ds → VdAll K F (xs.set i v) (ds.set i d)
  | _, _, _, .nil => .nil
  | _, _, 0, .cons _ t => .cons a t
  | _, _, i + 1, .cons b t => .cons b (VdAll.set a i t)
theorem VdAll.rev : ∀ {xs : List V} {ds : List D}, VdAll K F xs ds → VdAll K F xs.reverse ds.reverse
  | _, _, .nil => .nil
  | _, _, .cons a t => by rw [List.reverse_cons, List.reverse_cons]; exact (VdAll.rev t).app (.cons a .nil)
theorem VdAll.erase : ∀ {xs : List V} {ds : List D} (i : Nat), VdAll K F xs ds → VdAll K F (xs.eraseIdx i) (ds.eraseIdx i)
  | _, _, _, .nil => .nil
  | _, _, 0, .cons _ t => t
  | _, _, i + 1, .cons a t => .cons a (VdAll.erase i t)
theorem VdAll.to : ∀ vs : List V, VdAll K F vs (vs.map toD)
  | [] => .nil
  | v :: r => .cons (.to v) (VdAll.to r)
theorem VdAll.ints : ∀ {vs : List V} {ns : List Int}, VdAll K F vs (ns.map D.int) → vs = ns.map V.int
  | _, [], h => by cases h; rfl
  | _, n :: r, h => by
    cases h with
    | cons a t => cases a; rw [VdAll.ints t]; rfl
theorem VdAll.ofInts : ∀ ns : List Int, VdAll K F (ns.map V.int) (ns.map D.int)
  | [] => .nil
  | n :: r => .cons (.int n) (VdAll.ofInts r)
end
/-- an object as it lies -/
inductive Lay (K : PySem.W.Frag) (F : Hp) : HO → HD → Prop
  | lst {xs : List V} {ds : List D} : VdAll K F xs ds → Lay K F (.lst xs) (.lst ds)
  | dK {kvs : List (Key × V)} {kds : List (Key × D)} : kvs.map (·.1) = kds.map (·.1) → VdAll K F (kvs.map (·.2)) (kds.map (·.2)) → Lay K F (.dK kvs) (.dK kds)
  | dT {kvs : List (List Key × V)} {kds : List (List Key × D)} : kvs.map (·.1) = kds.map (·.1) → VdAll K F (kvs.map (·.2)) (kds.map (·.2)) → Lay K F (.dT kvs) (.dT kds)
  | ins {C dx : Addr} {fs : List (Str × V)} {ds : List (Str × D)} : fs.map (·.1) = ds.map (·.1) → VdAll K F (fs.map (·.2)) (ds.map (·.2)) → Lay K F (.ins C dx fs) (.ins C ds)
/-- the heap: F what never changes again (F0 of it from the entry on), S what may -/
structure RelH (K : PySem.W.Frag) (F0 F : Hp) (S : Sto) (H : Hp) : Prop where
  s0 : Same F0 F
  fr : Same F H
  tr : ∀ a o, S a = some o → F a = none ∧ ∃ ho, H a = some ho ∧ Lay K F ho o
abbrev EnvD := List (Option D)
inductive RelS (K : PySem.W.Frag) (F : Hp) : L2.St → EnvD → Prop
  | nil : RelS K F [] []
  | cons {ov : Option V} {σ : L2.St} {od : Option D} {env : EnvD} : (∀ d, od = some d → ∃ v, ov = some v ∧ Vd K F v d) → RelS K F σ env → RelS K F (ov :: σ) (od :: env)
structure Rel (K : PySem.W.Frag) (F0 F : Hp) (S : Sto) (env : EnvD) (σ : L2.St) (H : Hp) : Prop where
  h : RelH K F0 F S H
  s : RelS K F σ env
section
variable {K : PySem.W.Frag} {F0 F F' : Hp} {S S' : Sto} {H H' : Hp} {σ : L2.St} {env : EnvD}
theorem Lay.mono (s : Same F F') {ho : HO} {o : HD} (h : Lay K F ho o) : Lay K F' ho o := by
  cases h with
  | lst t => exact .lst (t.mono s)
  | dK e t => exact .dK e (t.mono s)
  | dT e t => exact .dT e (t.mono s)
  | ins e t => exact .ins e (t.mono s)
theorem RelS.mono (s : Same F F') : ∀ {σ : L2.St} {env : EnvD}, RelS K F σ env → RelS K F' σ env
  | _, _, .nil => .nil
  | _, _, .cons a t => .cons (fun d e => by obtain ⟨v, h1, h2⟩ := a d e; exact ⟨v, h1, h2.mono s⟩) (RelS.mono s t)
theorem RelS.get : ∀ {σ : L2.St} {env : EnvD} {i : Nat} {d : D}, RelS K F σ env → env[i]? = some (some d) → ∃ v, σ[i]? = some (some v) ∧ Vd K F v d
  | _, _, _, _, .nil, e => by simp at e
  | _, _, 0, _, .cons a _, e => by simp at e; obtain ⟨v, h1, h2⟩ := a _ e; exact ⟨v, by simp [h1], h2⟩
  | _, _, i + 1, d, .cons _ t, e => by
    obtain ⟨v, h1, h2⟩ := RelS.get (i := i) (d := d) t (by simpa using e)
    exact ⟨v, by simpa using h1, h2⟩
theorem RelS.set {v : V} {d : D} (a : Vd K F v d) : ∀ {σ : L2.St} {env : EnvD} (i : Nat), RelS K F σ env → RelS K F (σ.set i (some v)) (env.set i (some d))
  | _, _, _, .nil => .nil
  | _, _, 0, .cons _ t => .cons (fun e q => ⟨v, rfl, by cases q; exact a⟩) t
  | _, _, i + 1, .cons b t => .cons b (RelS.set a i t)
theorem RelS.unset : ∀ {σ : L2.St} {env : EnvD} (i : Nat) (ov : Option V), RelS K F σ env → RelS K F (σ.set i ov) (env.set i none)
  | _, _, _, _, .nil => .nil
  | _, _, 0, _, .cons _ t => .cons (fun e q => by cases q) t
  | _, _, i + 1, _, .cons b t => .cons b (RelS.unset i _ t)
theorem RelS.len : ∀ {σ : L2.St} {env : EnvD}, RelS K F σ env → σ.length = env.length
  | _, _, .nil => rfl
  | _, _, .cons _ t => congrArg (· + 1) t.len
theorem RelS.forget : ∀ {σ : L2.St} {env env' : EnvD}, RelS K F σ env → env'.length = env.length → (∀ (i : Nat) (d : D), env'[i]? = some (some d) → env[i]? = some (some d)) → RelS K F σ env'
  | _, _, [], .nil, _, _ => .nil
  | _, _, od :: env', .cons a t, hl, h => .cons (fun d e => a d (by have := h 0 d (by simp [e]); simpa using this)) (RelS.forget t (by simpa using hl) fun i d e => by have := h (i + 1) d (by simpa using e); simpa using this)
/-- from a heap to one with another frozen part -/
theorem Rel.at (r : Rel K F0 F S env σ H) (s : Same F F') (h : RelH K F0 F' S' H') : Rel K F0 F' S' env σ H' := ⟨h, r.s.mono s⟩
theorem RelH.free {a : Addr} (r : RelH K F0 F S H) (h : H a = none) : F a = none ∧ S a = none := by
  refine ⟨r.fr.free h, ?_⟩
  cases e : S a with
  | none => rfl
  | some o => obtain ⟨_, ho, e2, _⟩ := r.tr a o e; rw [h] at e2; cases e2
/-- a new object that may change -/
theorem RelH.new {p : Addr} {ho : HO} {o : HD} (r : RelH K F0 F S H) (hp : H p = none) (l : Lay K F ho o) : RelH K F0 F (sup S p o) (upd H p ho) := by
  refine ⟨r.s0, fun b u e => ?_, fun b u e => ?_⟩
  · rw [upd_ne (ne_of_none (r.fr _ _ e) hp)]; exact r.fr _ _ e
  · by_cases c : b = p
    · subst c
      rw [sup_same] at e; cases e
      exact ⟨(r.free hp).1, ho, upd_same, l⟩
    · rw [sup_ne c] at e
      obtain ⟨h1, u2, h2, h3⟩ := r.tr b u e
      exact ⟨h1, u2, by rw [upd_ne c]; exact h2, h3⟩
/-- a new object that never changes -/
theorem RelH.newF {p : Addr} {ho : HO} (r : RelH K F0 F S H) (hp : H p = none) : Same F (upd F p ho) ∧ RelH K F0 (upd F p ho) S (upd H p ho) := by
  have fp := (r.free hp).1
  have s : Same F (upd F p ho) := fun b u e => by rw [upd_ne (ne_of_none e fp)]; exact e
  refine ⟨s, r.s0.trans s, fun b u e => ?_, fun b u e => ?_⟩
  · by_cases c : b = p
    · subst c; rw [upd_same] at e ⊢; exact e
    · rw [upd_ne c] at e ⊢; exact r.fr _ _ e
  · obtain ⟨h1, u2, h2, h3⟩ := r.tr b u e
    have c : b ≠ p := ne_of_none h2 hp
    exact ⟨by rw [upd_ne c]; exact h1, u2, by rw [upd_ne c]; exact h2, h3.mono s⟩
/-- an object changed -/
theorem RelH.put {a : Addr} {ho : HO} {o o' : HD} (r : RelH K F0 F S H) (ha : S a = some o) (l : Lay K F ho o') : RelH K F0 F (sup S a o') (upd H a ho) := by
  obtain ⟨fa, _⟩ := r.tr a o ha
  refine ⟨r.s0, fun b u e => ?_, fun b u e => ?_⟩
  · rw [upd_ne (ne_of_none e fa)]; exact r.fr _ _ e
  · by_cases c : b = a
    · subst c
      rw [sup_same] at e; cases e
      exact ⟨fa, ho, upd_same, l⟩
    · rw [sup_ne c] at e
      obtain ⟨h1, u2, h2, h3⟩ := r.tr b u e
      exact ⟨h1, u2, by rw [upd_ne c]; exact h2, h3⟩
/-- it never changes from here on -/
theorem RelH.keep {a : Addr} {ho : HO} {o : HD} (r : RelH K F0 F S H) (ha : S a = some o) (hh : H a = some ho) : Same F (upd F a ho) ∧ RelH K F0 (upd F a ho) (sdel S a) H := by
  obtain ⟨fa, _⟩ := r.tr a o ha
  have s : Same F (upd F a ho) := fun b u e => by rw [upd_ne (ne_of_none e fa)]; exact e
  refine ⟨s, r.s0.trans s, fun b u e => ?_, fun b u e => ?_⟩
  · by_cases c : b = a
    · subst c; rw [upd_same] at e; rw [hh]; exact e
    · rw [upd_ne c] at e; exact r.fr _ _ e
  · by_cases c : b = a
    · subst c; rw [sdel_same] at e; cases e
    · rw [sdel_ne c] at e
      obtain ⟨h1, u2, h2, h3⟩ := r.tr b u e
      exact ⟨by rw [upd_ne c]; exact h1, u2, h2, h3.mono s⟩
/-- .. a dict, locked -/
theorem RelH.seal {a : Addr} {ho ho' : HO} {o : HD} (r : RelH K F0 F S H) (ha : S a = some o) : Same F (upd F a ho') ∧ RelH K F0 (upd F a ho') (sdel S a) (upd H a ho') := by
  obtain ⟨fa, _⟩ := r.tr a o ha
  have s : Same F (upd F a ho') := fun b u e => by rw [upd_ne (ne_of_none e fa)]; exact e
  refine ⟨s, r.s0.trans s, fun b u e => ?_, fun b u e => ?_⟩
  · by_cases c : b = a
    · subst c; rw [upd_same] at e ⊢; exact e
    · rw [upd_ne c] at e ⊢; exact r.fr _ _ e
  · by_cases c : b = a
    · subst c; rw [sdel_same] at e; cases e
    · rw [sdel_ne c] at e
      obtain ⟨h1, u2, h2, h3⟩ := r.tr b u e
      exact ⟨by rw [upd_ne c]; exact h1, u2, by rw [upd_ne c]; exact h2, h3.mono s⟩
/-- less is known -/
theorem RelH.less (r : RelH K F0 F S H) (h : ∀ a o, S' a = some o → S a = some o) : RelH K F0 F S' H := ⟨r.s0, r.fr, fun a o e => r.tr a o (h a o e)⟩
theorem RelH.lst {a : Addr} {ds : List D} (r : RelH K F0 F S H) (h : S a = some (.lst ds)) : ∃ xs, H a = some (.lst xs) ∧ VdAll K F xs ds := by
  obtain ⟨_, ho, e, l⟩ := r.tr a _ h
  cases l with
  | lst t => exact ⟨_, e, t⟩
theorem RelH.dK {a : Addr} {kds : List (Key × D)} (r : RelH K F0 F S H) (h : S a = some (.dK kds)) : ∃ kvs, H a = some (.dK kvs) ∧ kvs.map (·.1) = kds.map (·.1) ∧ VdAll K F (kvs.map (·.2)) (kds.map (·.2)) := by
  obtain ⟨_, ho, e, l⟩ := r.tr a _ h
  cases l with
  | dK k t => exact ⟨_, e, k, t⟩
theorem RelH.dT {a : Addr} {kds : List (List Key × D)} (r : RelH K F0 F S H) (h : S a = some (.dT kds)) : ∃ kvs, H a = some (.dT kvs) ∧ kvs.map (·.1) = kds.map (·.1) ∧ VdAll K F (kvs.map (·.2)) (kds.map (·.2)) := by
  obtain ⟨_, ho, e, l⟩ := r.tr a _ h
  cases l with
  | dT k t => exact ⟨_, e, k, t⟩
theorem RelH.ins {a C : Addr} {ds : List (Str × D)} (r : RelH K F0 F S H) (h : S a = some (.ins C ds)) : ∃ dx fs, H a = some (.ins C dx fs) ∧ fs.map (·.1) = ds.map (·.1) ∧ VdAll K F (fs.map (·.2)) (ds.map (·.2)) := by
  obtain ⟨_, ho, e, l⟩ := r.tr a _ h
  cases l with
  | ins k t => exact ⟨_, _, e, k, t⟩
end
/-! ### readings, lifted -/
abbrev PV := D → Sto → Prop
abbrev XD := Addr → Option (List (Str × D)) → Sto → Prop
abbrev TED := EnvD → Sto → PV → Prop
abbrev TTD := EnvD → Sto → (Bool → Sto → Prop) → Prop
abbrev TAD := EnvD → Sto → (List D → Sto → Prop) → Prop
structure EndsD where
  nx : EnvD → Sto → Prop
  rt : PV
  bk : EnvD → Sto → Prop := fun _ _ => False
  ct : EnvD → Sto → Prop := fun _ _ => False
abbrev TSD := EndsD → EnvD → Sto → Prop
/-- what is wanted of a value, at the heap -/
def LeV (K : PySem.W.Frag) (F0 F : Hp) (P : PV) (Q : VK) : Prop := ∀ x S F' H v, P x S → Same F F' → RelH K F0 F' S H → Vd K F' v x → Q v H
def LeB (K : PySem.W.Frag) (F0 F : Hp) (P : Bool → Sto → Prop) (Q : Bool → Hp → Prop) : Prop := ∀ x S F' H, P x S → Same F F' → RelH K F0 F' S H → Q x H
def LeA (K : PySem.W.Frag) (F0 F : Hp) (P : List D → Sto → Prop) (Q : List V → Hp → Prop) : Prop := ∀ x S F' H v, P x S → Same F F' → RelH K F0 F' S H → VdAll K F' v x → Q v H
def LeN (K : PySem.W.Frag) (F0 F : Hp) (P : EnvD → Sto → Prop) (Q : L2.St → Hp → Prop) : Prop := ∀ env S F' σ H, P env S → Same F F' → Rel K F0 F' S env σ H → Q σ H
structure LeE (K : PySem.W.Frag) (F0 F : Hp) (P : EndsD) (Q : Ends) : Prop where
  nx : LeN K F0 F P.nx Q.nx
  rt : LeV K F0 F P.rt Q.rt
  bk : LeN K F0 F P.bk Q.bk
  ct : LeN K F0 F P.ct Q.ct
/-- an error's own dict, as it lies -/
inductive XdAt (K : PySem.W.Frag) (F H : Hp) : Option Addr → Option (List (Str × D)) → Prop
  | none : XdAt K F H none none
  | some {d : Addr} {fs : List (Str × V)} {ds : List (Str × D)} : H d = some (.xd fs) → fs.map (·.1) = ds.map (·.1) → VdAll K F (fs.map (·.2)) (ds.map (·.2)) → XdAt K F H (some d) (some ds)
def LeX (K : PySem.W.Frag) (F0 F : Hp) (P : XD) (E : XK) : Prop := ∀ C ods S F' H od, P C ods S → Same F F' → RelH K F0 F' S H → XdAt K F' H od ods → E (.ref C) od H
section
variable {K : PySem.W.Frag} {F0 F F' : Hp}
theorem LeV.mono {P : PV} {Q : VK} (s : Same F F') (h : LeV K F0 F P Q) : LeV K F0 F' P Q := fun x S G H v p t => h x S G H v p (s.trans t)
theorem LeN.mono {P : EnvD → Sto → Prop} {Q : L2.St → Hp → Prop} (s : Same F F') (h : LeN K F0 F P Q) : LeN K F0 F' P Q := fun x S G H v p t => h x S G H v p (s.trans t)
theorem LeE.mono {P : EndsD} {Q : Ends} (s : Same F F') (h : LeE K F0 F P Q) : LeE K F0 F' P Q := ⟨h.nx.mono s, h.rt.mono s, h.bk.mono s, h.ct.mono s⟩
theorem LeX.mono {P : XD} {E : XK} (s : Same F F') (h : LeX K F0 F P E) : LeX K F0 F' P E := fun C ds S G H d p t => h C ds S G H d p (s.trans t)
end
class UpE (K : PySem.W.Frag) (F0 : Hp) (t : TE) (td : outParam TED) : Prop where
  up : ∀ {σ : L2.St} {H : Hp} {Q : VK} {F : Hp} {S : Sto} {env : EnvD} {P : PV}, Rel K F0 F S env σ H → td env S P → LeV K F0 F P Q → t σ H Q
class UpT (K : PySem.W.Frag) (F0 : Hp) (t : TT) (td : outParam TTD) : Prop where
  up : ∀ {σ : L2.St} {H : Hp} {Q : Bool → Hp → Prop} {F : Hp} {S : Sto} {env : EnvD} {P : Bool → Sto → Prop}, Rel K F0 F S env σ H → td env S P → LeB K F0 F P Q → t σ H Q
class UpA (K : PySem.W.Frag) (F0 : Hp) (t : TA) (td : outParam TAD) : Prop where
  up : ∀ {σ : L2.St} {H : Hp} {Q : List V → Hp → Prop} {F : Hp} {S : Sto} {env : EnvD} {P : List D → Sto → Prop}, Rel K F0 F S env σ H → td env S P → LeA K F0 F P Q → t σ H Q
class UpS (K : PySem.W.Frag) (F0 : Hp) (t : TS) (td : outParam TSD) : Prop where
  up : ∀ {σ : L2.St} {H : Hp} {Q : Ends} {F : Hp} {S : Sto} {env : EnvD} {P : EndsD}, Rel K F0 F S env σ H → td P env S → LeE K F0 F P Q → t Q σ H
abbrev TGD := D → EnvD → Sto → (EnvD → Sto → Prop) → Prop
abbrev TGsD := List D → EnvD → Sto → (EnvD → Sto → Prop) → Prop
class UpG (K : PySem.W.Frag) (F0 : Hp) (t : TG) (td : outParam TGD) : Prop where
  up : ∀ {v : V} {d : D} {σ : L2.St} {H : Hp} {Q : L2.St → Hp → Prop} {F : Hp} {S : Sto} {env : EnvD} {P : EnvD → Sto → Prop}, Rel K F0 F S env σ H → Vd K F v d → td d env S P → LeN K F0 F P Q → t v σ H Q
class UpGs (K : PySem.W.Frag) (F0 : Hp) (t : TGs) (td : outParam TGsD) : Prop where
  up : ∀ {v : List V} {d : List D} {σ : L2.St} {H : Hp} {Q : L2.St → Hp → Prop} {F : Hp} {S : Sto} {env : EnvD} {P : EnvD → Sto → Prop}, Rel K F0 F S env σ H → VdAll K F v d → td d env S P → LeN K F0 F P Q → t v σ H Q
abbrev R2D := D → D → Sto → PV → Prop
class UpR (K : PySem.W.Frag) (F0 : Hp) (r : R2) (rd : outParam R2D) : Prop where
  up : ∀ {v u : V} {x y : D} {H : Hp} {Q : VK} {F : Hp} {S : Sto} {P : PV}, RelH K F0 F S H → Vd K F v x → Vd K F u y → rd x y S P → LeV K F0 F P Q → r v u H Q
class UpU (K : PySem.W.Frag) (F0 : Hp) (r : V → Hp → VK → Prop) (rd : outParam (D → Sto → PV → Prop)) : Prop where
  up : ∀ {v : V} {x : D} {H : Hp} {Q : VK} {F : Hp} {S : Sto} {P : PV}, RelH K F0 F S H → Vd K F v x → rd x S P → LeV K F0 F P Q → r v H Q
/-- a call by values -/
class UpC (K : PySem.W.Frag) (F0 : Hp) (r : List V → Hp → VK → Prop) (rd : outParam (List D → Sto → PV → Prop)) : Prop where
  up : ∀ {vs : List V} {xs : List D} {H : Hp} {Q : VK} {F : Hp} {S : Sto} {P : PV}, RelH K F0 F S H → VdAll K F vs xs → rd xs S P → LeV K F0 F P Q → r vs H Q
/-- a method by values -/
class UpM (K : PySem.W.Frag) (F0 : Hp) (r : V → List V → Hp → VK → Prop) (rd : outParam (D → List D → Sto → PV → Prop)) : Prop where
  up : ∀ {v : V} {x : D} {vs : List V} {xs : List D} {H : Hp} {Q : VK} {F : Hp} {S : Sto} {P : PV}, RelH K F0 F S H → Vd K F v x → VdAll K F vs xs → rd x xs S P → LeV K F0 F P Q → r v vs H Q
section
variable {K : PySem.W.Frag} {F0 : Hp}
/-! #### names, constants, operators -/
def dVar (i : Nat) : TED := fun env S P => ∃ x, env[i]? = some (some x) ∧ P x S
instance (i : Nat) : UpE K F0 (tVar i) (dVar i) := ⟨fun r ⟨x, e, p⟩ le => by
  obtain ⟨v, h1, h2⟩ := r.s.get e
  exact ⟨v, h1, le x _ _ _ v p (Same.refl _) r.h h2⟩⟩
def dC (x : D) : TED := fun _ S P => P x S
instance (v : V) : UpE K F0 (tC v) (dC (toD v)) := ⟨fun r p le => le _ _ _ _ _ p (Same.refl _) r.h (.to v)⟩
def dOp (rd : R2D) (da db : TED) : TED := fun env S P => da env S fun x S1 => db env S1 fun y S2 => rd x y S2 P
instance {r : R2} {rd : R2D} {ta tb : TE} {da db : TED} [UpE K F0 ta da] [UpE K F0 tb db] [UpR K F0 r rd] : UpE K F0 (tOp r ta tb) (dOp rd da db) := ⟨fun r0 h le =>
  UpE.up (t := ta) (td := da) r0 h fun x S1 F1 H1 v h1 s1 r1 v1 => UpE.up (t := tb) (td := db) (r0.at s1 r1) h1 fun y S2 F2 H2 u h2 s2 r2 v2 =>
    UpR.up (r := r) (rd := rd) r2 (v1.mono s2) v2 h2 (le.mono (s1.trans s2))⟩
def dUn (rd : D → Sto → PV → Prop) (da : TED) : TED := fun env S P => da env S fun x S1 => rd x S1 P
instance {r : V → Hp → VK → Prop} {rd : D → Sto → PV → Prop} {ta : TE} {da : TED} [UpE K F0 ta da] [UpU K F0 r rd] : UpE K F0 (tUn r ta) (dUn rd da) := ⟨fun r0 h le =>
  UpE.up (t := ta) (td := da) r0 h fun x S1 F1 H1 v h1 s1 r1 v1 => UpU.up (r := r) (rd := rd) r1 v1 h1 (le.mono s1)⟩
def dI (C : Int → Int → Prop) (g : Int → Int → D) : R2D := fun x y S P => ∃ i j, x = .int i ∧ y = .int j ∧ C i j ∧ P (g i j) S
def dI0 (g : Int → Int → D) : R2D := fun x y S P => ∃ i j, x = .int i ∧ y = .int j ∧ P (g i j) S
instance (C : Int → Int → Prop) (g : Int → Int → V) : UpR K F0 (rI C g) (dI C fun i j => toD (g i j)) := ⟨fun r hv hu ⟨i, j, e1, e2, c, p⟩ le => by
  subst e1; subst e2; cases hv; cases hu
  exact ⟨i, j, rfl, rfl, c, le _ _ _ _ _ p (Same.refl _) r (.to _)⟩⟩
instance (g : Int → Int → V) : UpR K F0 (rI0 g) (dI0 fun i j => toD (g i j)) := ⟨fun r hv hu ⟨i, j, e1, e2, p⟩ le => by
  subst e1; subst e2; cases hv; cases hu
  exact ⟨i, j, rfl, rfl, le _ _ _ _ _ p (Same.refl _) r (.to _)⟩⟩
def dU (g : Int → D) : D → Sto → PV → Prop := fun x S P => ∃ i, x = .int i ∧ P (g i) S
instance (g : Int → V) : UpU K F0 (rU g) (dU fun i => toD (g i)) := ⟨fun r hv ⟨i, e1, p⟩ le => by
  subst e1; cases hv
  exact ⟨i, rfl, le _ _ _ _ _ p (Same.refl _) r (.to _)⟩⟩
/-! #### arguments -/
def dNil : TAD := fun _ S P => P [] S
instance : UpA K F0 tNil dNil := ⟨fun r p le => le _ _ _ _ _ p (Same.refl _) r.h .nil⟩
def dCons (da : TED) (dr : TAD) : TAD := fun env S P => da env S fun x S1 => dr env S1 fun xs S2 => P (x :: xs) S2
instance {ta : TE} {tr : TA} {da : TED} {dr : TAD} [UpE K F0 ta da] [UpA K F0 tr dr] : UpA K F0 (tCons ta tr) (dCons da dr) := ⟨fun r0 h le =>
  UpE.up (t := ta) (td := da) r0 h fun x S1 F1 H1 v h1 s1 r1 v1 => UpA.up (t := tr) (td := dr) (r0.at s1 r1) h1 fun xs S2 F2 H2 vs h2 s2 r2 v2 =>
    le _ _ _ _ _ h2 (s1.trans s2) r2 (.cons (v1.mono s2) v2)⟩
/-- a tuple: data -/
def dTup (da : TAD) : TED := fun env S P => da env S fun xs S1 => xs.length ≤ sizeLine ∧ P (.tup xs) S1
instance {ta : TA} {da : TAD} [UpA K F0 ta da] : UpE K F0 (tTup ta) (dTup da) := ⟨fun r0 h le =>
  UpA.up (t := ta) (td := da) r0 h fun xs S1 F1 H1 vs ⟨h0, h1⟩ s1 r1 v1 => ⟨by rw [v1.len]; exact h0, fun p hp => by
    obtain ⟨s2, r2⟩ := r1.newF (ho := .tup vs) hp
    exact le _ _ _ _ _ h1 (s1.trans s2) r2 (.tup upd_same (v1.mono s2))⟩⟩
/-- a list: an object that may change -/
def dLst (da : TAD) : TED := fun env S P => da env S fun xs S1 => xs.length ≤ sizeLine ∧ ∀ p, S1 p = none → P (.ref p) (sup S1 p (.lst xs))
instance {ta : TA} {da : TAD} [UpA K F0 ta da] : UpE K F0 (tLst ta) (dLst da) := ⟨fun r0 h le =>
  UpA.up (t := ta) (td := da) r0 h fun xs S1 F1 H1 vs ⟨h0, h1⟩ s1 r1 v1 => ⟨by rw [v1.len]; exact h0, fun p hp =>
    le _ _ _ _ _ (h1 p (r1.free hp).2) s1 (r1.new hp (.lst v1)) (.ref p)⟩⟩
def dNewK : TED := fun _ S P => ∀ p, S p = none → P (.ref p) (sup S p (.dK []))
instance : UpE K F0 tDNewK dNewK := ⟨fun r0 h le => fun p hp => le _ _ _ _ _ (h p (r0.h.free hp).2) (Same.refl _) (r0.h.new hp (.dK (kvs := []) (kds := []) rfl .nil)) (.ref p)⟩
def dNewT : TED := fun _ S P => ∀ p, S p = none → P (.ref p) (sup S p (.dT []))
instance : UpE K F0 tDNewT dNewT := ⟨fun r0 h le => fun p hp => le _ _ _ _ _ (h p (r0.h.free hp).2) (Same.refl _) (r0.h.new hp (.dT (kvs := []) (kds := []) rfl .nil)) (.ref p)⟩
/-! #### truths -/
def dB (da : TED) : TTD := fun env S P => da env S fun x S1 => ∃ c, x = .bl c ∧ P c S1
instance {t : TE} {td : TED} [UpE K F0 t td] : UpT K F0 (tB t) (dB td) := ⟨fun r0 h le =>
  UpE.up (t := t) (td := td) r0 h fun x S1 F1 H1 v ⟨c, e, h1⟩ s1 r1 v1 => by subst e; cases v1; exact ⟨c, rfl, le _ _ _ _ h1 s1 r1⟩⟩
instance {t : TE} {td : TED} [UpE K F0 t td] : UpT K F0 (tTest t) (dB td) := ⟨fun r0 h le =>
  UpE.up (t := t) (td := td) r0 h fun x S1 F1 H1 v ⟨c, e, h1⟩ s1 r1 v1 => by subst e; cases v1; exact ⟨c, rfl, le _ _ _ _ h1 s1 r1⟩⟩
def dAnd (t u : TTD) : TTD := fun env S P => t env S fun c S1 => if c = true then u env S1 P else P false S1
def dOr (t u : TTD) : TTD := fun env S P => t env S fun c S1 => if c = true then P true S1 else u env S1 P
def dNot (t : TTD) : TTD := fun env S P => t env S fun c S1 => P (!c) S1
theorem LeB.mono {F F' : Hp} {P : Bool → Sto → Prop} {Q : Bool → Hp → Prop} (s : Same F F') (h : LeB K F0 F P Q) : LeB K F0 F' P Q := fun x S G H p t => h x S G H p (s.trans t)
instance {t u : TT} {td ud : TTD} [UpT K F0 t td] [UpT K F0 u ud] : UpT K F0 (tAnd t u) (dAnd td ud) := ⟨fun r0 h le =>
  UpT.up (t := t) (td := td) r0 h fun c S1 F1 H1 h1 s1 r1 => by
    cases c with
    | true => exact UpT.up (t := u) (td := ud) (r0.at s1 r1) h1 (le.mono s1)
    | false => exact le _ _ _ _ h1 s1 r1⟩
instance {t u : TT} {td ud : TTD} [UpT K F0 t td] [UpT K F0 u ud] : UpT K F0 (tOr t u) (dOr td ud) := ⟨fun r0 h le =>
  UpT.up (t := t) (td := td) r0 h fun c S1 F1 H1 h1 s1 r1 => by
    cases c with
    | false => exact UpT.up (t := u) (td := ud) (r0.at s1 r1) h1 (le.mono s1)
    | true => exact le _ _ _ _ h1 s1 r1⟩
instance {t : TT} {td : TTD} [UpT K F0 t td] : UpT K F0 (tNot t) (dNot td) := ⟨fun r0 h le =>
  UpT.up (t := t) (td := td) r0 h fun c S1 F1 H1 h1 s1 r1 => le _ _ _ _ h1 s1 r1⟩
def dAndV (da db : TED) : TED := fun env S P => da env S fun x S1 => ∃ c, x = .bl c ∧ if c = true then db env S1 P else P (.bl false) S1
def dOrV (da db : TED) : TED := fun env S P => da env S fun x S1 => ∃ c, x = .bl c ∧ if c = true then P (.bl true) S1 else db env S1 P
def dNotV (da : TED) : TED := fun env S P => da env S fun x S1 => ∃ c, x = .bl c ∧ P (.bl (!c)) S1
instance {ta tb : TE} {da db : TED} [UpE K F0 ta da] [UpE K F0 tb db] : UpE K F0 (tAndV ta tb) (dAndV da db) := ⟨fun r0 h le =>
  UpE.up (t := ta) (td := da) r0 h fun x S1 F1 H1 v ⟨c, e, h1⟩ s1 r1 v1 => by
    subst e; cases v1
    refine ⟨c, rfl, ?_⟩
    cases c with
    | true => exact UpE.up (t := tb) (td := db) (r0.at s1 r1) h1 (le.mono s1)
    | false => exact le _ _ _ _ _ h1 s1 r1 (.bl _)⟩
instance {ta tb : TE} {da db : TED} [UpE K F0 ta da] [UpE K F0 tb db] : UpE K F0 (tOrV ta tb) (dOrV da db) := ⟨fun r0 h le =>
  UpE.up (t := ta) (td := da) r0 h fun x S1 F1 H1 v ⟨c, e, h1⟩ s1 r1 v1 => by
    subst e; cases v1
    refine ⟨c, rfl, ?_⟩
    cases c with
    | false => exact UpE.up (t := tb) (td := db) (r0.at s1 r1) h1 (le.mono s1)
    | true => exact le _ _ _ _ _ h1 s1 r1 (.bl _)⟩
instance {ta : TE} {da : TED} [UpE K F0 ta da] : UpE K F0 (tNotV ta) (dNotV da) := ⟨fun r0 h le =>
  UpE.up (t := ta) (td := da) r0 h fun x S1 F1 H1 v ⟨c, e, h1⟩ s1 r1 v1 => by subst e; cases v1; exact ⟨c, rfl, le _ _ _ _ _ h1 s1 r1 (.bl _)⟩⟩
def dIf (t : TTD) (da db : TED) : TED := fun env S P => t env S fun c S1 => if c = true then da env S1 P else db env S1 P
instance {t : TT} {td : TTD} {ta tb : TE} {da db : TED} [UpT K F0 t td] [UpE K F0 ta da] [UpE K F0 tb db] : UpE K F0 (tIf t ta tb) (dIf td da db) := ⟨fun r0 h le =>
  UpT.up (t := t) (td := td) r0 h fun c S1 F1 H1 h1 s1 r1 => by
    cases c with
    | true => exact UpE.up (t := ta) (td := da) (r0.at s1 r1) h1 (le.mono s1)
    | false => exact UpE.up (t := tb) (td := db) (r0.at s1 r1) h1 (le.mono s1)⟩
/-! #### statements -/
def dNext : TSD := fun P env S => P.nx env S
instance : UpS K F0 tNext dNext := ⟨fun r0 h le => le.nx _ _ _ _ _ h (Same.refl _) r0⟩
def dBreak : TSD := fun P env S => P.bk env S
instance : UpS K F0 tBreak dBreak := ⟨fun r0 h le => le.bk _ _ _ _ _ h (Same.refl _) r0⟩
def dCont : TSD := fun P env S => P.ct env S
instance : UpS K F0 tCont dCont := ⟨fun r0 h le => le.ct _ _ _ _ _ h (Same.refl _) r0⟩
def dNever : TSD := fun _ _ _ => False
instance : UpS K F0 tNever dNever := ⟨fun _ h _ => h.elim⟩
def dSeq (t u : TSD) : TSD := fun P env S => t { P with nx := u P } env S
instance {t u : TS} {td ud : TSD} [UpS K F0 t td] [UpS K F0 u ud] : UpS K F0 (tSeq t u) (dSeq td ud) := ⟨fun r0 h le =>
  UpS.up (t := t) (td := td) r0 h ⟨fun env S1 F1 σ1 H1 h1 s1 r1 => UpS.up (t := u) (td := ud) r1 h1 (le.mono s1), le.rt, le.bk, le.ct⟩⟩
def dDrop (da : TED) : TSD := fun P env S => da env S fun _ S1 => P.nx env S1
instance {ta : TE} {da : TED} [UpE K F0 ta da] : UpS K F0 (tDrop ta) (dDrop da) := ⟨fun r0 h le =>
  UpE.up (t := ta) (td := da) r0 h fun x S1 F1 H1 v h1 s1 r1 _ => le.nx _ _ _ _ _ h1 s1 (r0.at s1 r1)⟩
def dRet (da : TED) : TSD := fun P env S => da env S P.rt
instance {ta : TE} {da : TED} [UpE K F0 ta da] : UpS K F0 (tRet ta) (dRet da) := ⟨fun r0 h le => UpE.up (t := ta) (td := da) r0 h le.rt⟩
def dRetN : TSD := fun P _ S => P.rt .non S
instance : UpS K F0 tRetN dRetN := ⟨fun r0 h le => le.rt _ _ _ _ _ h (Same.refl _) r0.h .non⟩
def dIfS (c : TTD) (t u : TSD) : TSD := fun P env S => c env S fun b S1 => if b = true then t P env S1 else u P env S1
instance {c : TT} {cd : TTD} {t u : TS} {td ud : TSD} [UpT K F0 c cd] [UpS K F0 t td] [UpS K F0 u ud] : UpS K F0 (tIfS c t u) (dIfS cd td ud) := ⟨fun r0 h le =>
  UpT.up (t := c) (td := cd) r0 h fun b S1 F1 H1 h1 s1 r1 => by
    cases b with
    | true => exact UpS.up (t := t) (td := td) (r0.at s1 r1) h1 (le.mono s1)
    | false => exact UpS.up (t := u) (td := ud) (r0.at s1 r1) h1 (le.mono s1)⟩
/-! #### targets -/
def kName (i : Nat) : TGD := fun x env S P => P (env.set i (some x)) S
instance (i : Nat) : UpG K F0 (gName i) (kName i) := ⟨fun r0 hv h le => le _ _ _ _ _ h (Same.refl _) ⟨r0.h, r0.s.set hv i⟩⟩
def kNil : TGsD := fun xs env S P => xs = [] ∧ P env S
instance : UpGs K F0 gNil kNil := ⟨fun r0 hv ⟨e, h⟩ le => by subst e; cases hv; exact ⟨rfl, le _ _ _ _ _ h (Same.refl _) r0⟩⟩
def kCons (t : TGD) (u : TGsD) : TGsD := fun xs env S P => ∃ x r, xs = x :: r ∧ t x env S fun env1 S1 => u r env1 S1 P
instance {t : TG} {td : TGD} {u : TGs} {ud : TGsD} [UpG K F0 t td] [UpGs K F0 u ud] : UpGs K F0 (gCons t u) (kCons td ud) := ⟨fun r0 hv ⟨x, r, e, h⟩ le => by
  subst e
  cases hv with
  | cons a b => exact ⟨_, _, rfl, UpG.up (t := t) (td := td) r0 a h fun env1 S1 F1 σ1 H1 h1 s1 r1 => UpGs.up (t := u) (td := ud) r1 (b.mono s1) h1 (le.mono s1)⟩⟩
def kTup (n : Nat) (u : TGsD) : TGD := fun x env S P => ∃ xs, x = .tup xs ∧ xs.length = n ∧ u xs env S P
instance {n : Nat} {u : TGs} {ud : TGsD} [UpGs K F0 u ud] : UpG K F0 (gTup K n u) (kTup n ud) := ⟨fun r0 hv ⟨xs, e, hn, h⟩ le => by
  subst e
  cases hv with
  | tup ha hs => exact ⟨_, _, rfl, .inl (.inl (r0.h.fr _ _ ha)), by rw [hs.len]; exact hn, UpGs.up (t := u) (td := ud) r0 hs h le⟩⟩
def dAsg (da : TED) (g : TGD) : TSD := fun P env S => da env S fun x S1 => g x env S1 P.nx
instance {ta : TE} {da : TED} {g : TG} {gd : TGD} [UpE K F0 ta da] [UpG K F0 g gd] : UpS K F0 (tAsg ta g) (dAsg da gd) := ⟨fun r0 h le =>
  UpE.up (t := ta) (td := da) r0 h fun x S1 F1 H1 v h1 s1 r1 v1 => UpG.up (t := g) (td := gd) (r0.at s1 r1) v1 h1 (le.nx.mono s1)⟩
end
end L2.VW

/-! ## lists, dicts, objects: in full, or at an address -/
namespace L2.VW
open PySem PySem.Spec PyProof.Rows
/-- a list, as data or at an address -/
def SeqL (S : Sto) (x : D) (ds : List D) : Prop := x = .lst ds ∨ (∃ a, x = .ref a ∧ S a = some (.lst ds)) ∨ x = .seq ds
/-- .. not the script's -/
def SeqW (S : Sto) (x : D) (ds : List D) : Prop := x = .lst ds ∨ ∃ a, x = .ref a ∧ S a = some (.lst ds)
def Ins (S : Sto) (x : D) (C : Addr) (ds : List (Str × D)) : Prop := x = .ins C ds ∨ ∃ a, x = .ref a ∧ S a = some (.ins C ds)
def DicK (S : Sto) (x : D) (kds : List (Key × D)) : Prop := x = .dK kds ∨ ∃ a, x = .ref a ∧ S a = some (.dK kds)
def DicT (S : Sto) (x : D) (kds : List (List Key × D)) : Prop := x = .dT kds ∨ ∃ a, x = .ref a ∧ S a = some (.dT kds)
section
variable {κ : Type} [DecidableEq κ]
def getD' (kds : List (κ × D)) (k : κ) : Option D := (kds.find? fun kv => decide (kv.1 = k)).map (·.2)
def putD (kds : List (κ × D)) (k : κ) (v : D) : List (κ × D) :=
  if (kds.any fun kv => decide (kv.1 = k)) = true then kds.map (fun kv => if kv.1 = k then (kv.1, v) else kv) else kds ++ [(k, v)]
def dropD (kds : List (κ × D)) (k : κ) : List (κ × D) := kds.filter fun kv => decide (kv.1 ≠ k)
end
def setF (f : Str) (v : D) : List (Str × D) → List (Str × D)
  | [] => [(f, v)]
  | (g, x) :: r => if g = f then (g, v) :: r else (g, x) :: setF f v r
/-- a key as a value -/
def kD : Key → D
  | .inl i => .int i
  | .inr z => .str z
section
variable {K : PySem.W.Frag} {F F0 F' : Hp} {S : Sto} {H : Hp}
theorem kD_of {k : Key} : toD (kV k) = kD k := by cases k <;> rfl
theorem vd_key {k : Key} {v : V} (h : Vd K F v (kD k)) : v = kV k := by
  cases k <;> (cases h; rfl)
theorem vd_keyV {k : Key} : Vd K F (kV k) (kD k) := by cases k <;> constructor
/-- rows of keys with values, side by side -/
def KP (K : PySem.W.Frag) (F : Hp) {κ : Type} (kvs : List (κ × V)) (kds : List (κ × D)) : Prop := Paired (fun p q => p.1 = q.1 ∧ Vd K F p.2 q.2) kvs kds
theorem KP.of {κ : Type} : ∀ {kvs : List (κ × V)} {kds : List (κ × D)}, kvs.map (·.1) = kds.map (·.1) → VdAll K F (kvs.map (·.2)) (kds.map (·.2)) → KP K F kvs kds
  | [], [], _, _ => .nil
  | [], _ :: _, e, _ => by cases e
  | _ :: _, [], e, _ => by cases e
  | p :: r, q :: t, e, h => by
    have e1 := List.cons.inj e
    cases h with
    | cons a b => exact .cons ⟨e1.1, a⟩ (KP.of e1.2 b)
theorem KP.keys {κ : Type} : ∀ {kvs : List (κ × V)} {kds : List (κ × D)}, KP K F kvs kds → kvs.map (·.1) = kds.map (·.1)
  | _, _, .nil => rfl
  | _, _, .cons a t => by rw [List.map_cons, List.map_cons, a.1, KP.keys t]
theorem KP.vals {κ : Type} : ∀ {kvs : List (κ × V)} {kds : List (κ × D)}, KP K F kvs kds → VdAll K F (kvs.map (·.2)) (kds.map (·.2))
  | _, _, .nil => .nil
  | _, _, .cons a t => .cons a.2 (KP.vals t)
theorem KP.len {κ : Type} {kvs : List (κ × V)} {kds : List (κ × D)} (h : KP K F kvs kds) : kvs.length = kds.length := Paired.length h
theorem KP.get {κ : Type} [DecidableEq κ] {k : κ} {d : D} : ∀ {kvs : List (κ × V)} {kds : List (κ × D)}, KP K F kvs kds → getD' kds k = some d → ∃ v, valV kvs k = some v ∧ Vd K F v d
  | _, _, .nil, e => by cases e
  | p :: r, q :: t, .cons a b, e => by
    by_cases c : q.1 = k
    · have : getD' (q :: t) k = some q.2 := by simp [getD', List.find?_cons, c]
      rw [this] at e; cases e
      exact ⟨p.2, valV_pos (a.1.trans c), a.2⟩
    · have : getD' (q :: t) k = getD' t k := by simp [getD', List.find?_cons, c]
      rw [this] at e
      obtain ⟨v, h1, h2⟩ := KP.get b e
      exact ⟨v, by rw [valV_neg (fun z => c (a.1.symm.trans z))]; exact h1, h2⟩
theorem KP.getN {κ : Type} [DecidableEq κ] {k : κ} : ∀ {kvs : List (κ × V)} {kds : List (κ × D)}, KP K F kvs kds → getD' kds k = none → valV kvs k = none
  | _, _, .nil, _ => rfl
  | p :: r, q :: t, .cons a b, e => by
    by_cases c : q.1 = k
    · have : getD' (q :: t) k = some q.2 := by simp [getD', List.find?_cons, c]
      rw [this] at e; cases e
    · have : getD' (q :: t) k = getD' t k := by simp [getD', List.find?_cons, c]
      rw [this] at e
      rw [valV_neg (fun z => c (a.1.symm.trans z))]; exact KP.getN b e
theorem KP.getO {κ : Type} [DecidableEq κ] {k : κ} {kvs : List (κ × V)} {kds : List (κ × D)} (h : KP K F kvs kds) : (getD' kds k = none ∧ valV kvs k = none) ∨ ∃ v d, getD' kds k = some d ∧ valV kvs k = some v ∧ Vd K F v d := by
  cases e : getD' kds k with
  | none => exact .inl ⟨rfl, h.getN e⟩
  | some d =>
    obtain ⟨v, h1, h2⟩ := h.get e
    exact .inr ⟨v, d, rfl, h1, h2⟩
theorem KP.any {κ : Type} [DecidableEq κ] {k : κ} : ∀ {kvs : List (κ × V)} {kds : List (κ × D)}, KP K F kvs kds → (kvs.any fun kv => decide (kv.1 = k)) = kds.any fun kv => decide (kv.1 = k)
  | _, _, .nil => rfl
  | p :: r, q :: t, .cons a b => by rw [List.any_cons, List.any_cons, a.1, KP.any b]
theorem KP.mapv {κ : Type} [DecidableEq κ] {k : κ} {v : V} {d : D} (hv : Vd K F v d) : ∀ {kvs : List (κ × V)} {kds : List (κ × D)}, KP K F kvs kds → KP K F (kvs.map fun kv => if kv.1 = k then (kv.1, v) else kv) (kds.map fun kv => if kv.1 = k then (kv.1, d) else kv)
  | _, _, .nil => .nil
  | p :: r, q :: t, .cons a b => by
    refine .cons ?_ (KP.mapv hv b)
    by_cases c : q.1 = k
    · show (if p.1 = k then (p.1, v) else p).1 = (if q.1 = k then (q.1, d) else q).1 ∧ Vd K F (if p.1 = k then (p.1, v) else p).2 (if q.1 = k then (q.1, d) else q).2
      rw [if_pos c, if_pos (a.1.trans c)]; exact ⟨a.1, hv⟩
    · show (if p.1 = k then (p.1, v) else p).1 = (if q.1 = k then (q.1, d) else q).1 ∧ Vd K F (if p.1 = k then (p.1, v) else p).2 (if q.1 = k then (q.1, d) else q).2
      rw [if_neg c, if_neg (fun z => c (a.1.symm.trans z))]; exact a
theorem KP.app {κ : Type} : ∀ {kvs ls : List (κ × V)} {kds es : List (κ × D)}, KP K F kvs kds → KP K F ls es → KP K F (kvs ++ ls) (kds ++ es)
  | _, _, _, _, .nil, s => s
  | _, _, _, _, .cons a t, s => .cons a (KP.app t s)
theorem KP.put {κ : Type} [DecidableEq κ] {k : κ} {v : V} {d : D} (hv : Vd K F v d) {kvs : List (κ × V)} {kds : List (κ × D)} (h : KP K F kvs kds) : KP K F (putK kvs k v) (putD kds k d) := by
  unfold putK putD
  rw [h.any]
  split
  · exact h.mapv hv
  · exact h.app (.cons ⟨rfl, hv⟩ .nil)
theorem KP.drop {κ : Type} [DecidableEq κ] {k : κ} : ∀ {kvs : List (κ × V)} {kds : List (κ × D)}, KP K F kvs kds → KP K F (dropK kvs k) (dropD kds k)
  | _, _, .nil => .nil
  | p :: r, q :: t, .cons a b => by
    have ih := KP.drop (k := k) b
    unfold dropK dropD at ih ⊢
    by_cases c : q.1 = k
    · have c2 : p.1 = k := a.1.trans c
      rw [List.filter_cons, List.filter_cons, if_neg (show ¬ decide (p.1 ≠ k) = true by simpa using c2), if_neg (show ¬ decide (q.1 ≠ k) = true by simpa using c)]; exact ih
    · have c2 : ¬ p.1 = k := fun z => c (a.1.symm.trans z)
      rw [List.filter_cons, List.filter_cons, if_pos (show decide (p.1 ≠ k) = true by simpa using c2), if_pos (show decide (q.1 ≠ k) = true by simpa using c)]; exact .cons a ih
theorem KP.mono {κ : Type} (s : Same F F') : ∀ {kvs : List (κ × V)} {kds : List (κ × D)}, KP K F kvs kds → KP K F' kvs kds
  | _, _, .nil => .nil
  | _, _, .cons a t => .cons ⟨a.1, a.2.mono s⟩ (KP.mono s t)
theorem KP.lookup {f : Str} {d : D} : ∀ {kvs : List (Str × V)} {kds : List (Str × D)}, KP K F kvs kds → kds.lookup f = some d → ∃ v, kvs.lookup f = some v ∧ Vd K F v d
  | _, _, .nil, e => by cases e
  | (g, x) :: r, (g', y) :: t, .cons a b, e => by
    have e1 : g = g' := a.1
    subst e1
    rw [List.lookup_cons] at e ⊢
    by_cases c : (f == g) = true
    · rw [c] at e ⊢; cases e; exact ⟨x, rfl, a.2⟩
    · rw [Bool.not_eq_true] at c
      rw [c] at e ⊢; exact KP.lookup b e
theorem KP.lookupN {f : Str} : ∀ {kvs : List (Str × V)} {kds : List (Str × D)}, KP K F kvs kds → kds.lookup f = none → kvs.lookup f = none
  | _, _, .nil, _ => rfl
  | (g, x) :: r, (g', y) :: t, .cons a b, e => by
    have e1 : g = g' := a.1
    subst e1
    rw [List.lookup_cons] at e ⊢
    by_cases c : (f == g) = true
    · rw [c] at e; cases e
    · rw [Bool.not_eq_true] at c
      rw [c] at e ⊢; exact KP.lookupN b e
theorem KP.putF {f : Str} {v : V} {d : D} (hv : Vd K F v d) : ∀ {kvs : List (Str × V)} {kds : List (Str × D)}, KP K F kvs kds → KP K F (L2.putF f v kvs) (setF f d kds)
  | _, _, .nil => .cons ⟨rfl, hv⟩ .nil
  | (g, x) :: r, (g', y) :: t, .cons a b => by
    have e1 : g = g' := a.1
    subst e1
    unfold L2.putF setF
    by_cases c : g = f
    · rw [if_pos c, if_pos c]; exact .cons ⟨rfl, hv⟩ b
    · rw [if_neg c, if_neg c]; exact .cons a (KP.putF hv b)
theorem SeqL.at {v : V} {x : D} {ds : List D} (r : RelH K F0 F S H) (h : SeqL S x ds) (hv : Vd K F v x) : ∃ a xs, v = .ref a ∧ SqL K H a xs ∧ VdAll K F xs ds := by
  rcases h with rfl | ⟨a, rfl, e⟩ | rfl
  · cases hv with
    | lst h1 h2 => exact ⟨_, _, rfl, .inl (.inl (r.fr _ _ h1)), h2⟩
  · cases hv
    obtain ⟨xs, e1, h⟩ := r.lst e
    exact ⟨a, xs, rfl, .inl (.inl e1), h⟩
  · cases hv with
    | seq h1 h2 => exact ⟨_, _, rfl, r.fr.seq h1, h2⟩
theorem SeqW.at {v : V} {x : D} {ds : List D} (r : RelH K F0 F S H) (h : SeqW S x ds) (hv : Vd K F v x) : ∃ a xs, v = .ref a ∧ H a = some (.lst xs) ∧ VdAll K F xs ds := by
  rcases h with rfl | ⟨a, rfl, e⟩
  · cases hv with
    | lst h1 h2 => exact ⟨_, _, rfl, r.fr _ _ h1, h2⟩
  · cases hv
    obtain ⟨xs, e1, h⟩ := r.lst e
    exact ⟨a, xs, rfl, e1, h⟩
theorem tup_at {v : V} {ds : List D} (r : RelH K F0 F S H) (hv : Vd K F v (.tup ds)) : ∃ a xs, v = .ref a ∧ SqT K H a xs ∧ VdAll K F xs ds := by
  cases hv with
  | tup h1 h2 => exact ⟨_, _, rfl, .inl (.inl (r.fr _ _ h1)), h2⟩
theorem Ins.at {v : V} {x : D} {C : Addr} {ds : List (Str × D)} (r : RelH K F0 F S H) (h : Ins S x C ds) (hv : Vd K F v x) : ∃ a dx fs, v = .ref a ∧ H a = some (.ins C dx fs) ∧ KP K F fs ds := by
  rcases h with rfl | ⟨a, rfl, e⟩
  · cases hv with
    | ins h1 h2 h3 => exact ⟨_, _, _, rfl, r.fr _ _ h1, .of h2 h3⟩
  · cases hv
    obtain ⟨dx, fs, e1, h2, h3⟩ := r.ins e
    exact ⟨a, dx, fs, rfl, e1, .of h2 h3⟩
theorem DicK.at {v : V} {x : D} {kds : List (Key × D)} (r : RelH K F0 F S H) (h : DicK S x kds) (hv : Vd K F v x) : ∃ a kvs, v = .ref a ∧ Rd H a (.dK kvs) ∧ KP K F kvs kds := by
  rcases h with rfl | ⟨a, rfl, e⟩
  · cases hv with
    | dK h1 h2 h3 => exact ⟨_, _, rfl, .inr ⟨_, r.fr _ _ h1⟩, .of h2 h3⟩
  · cases hv
    obtain ⟨kvs, e1, h2, h3⟩ := r.dK e
    exact ⟨a, kvs, rfl, .inl e1, .of h2 h3⟩
theorem DicT.at {v : V} {x : D} {kds : List (List Key × D)} (r : RelH K F0 F S H) (h : DicT S x kds) (hv : Vd K F v x) : ∃ a kvs, v = .ref a ∧ Rd H a (.dT kvs) ∧ KP K F kvs kds := by
  rcases h with rfl | ⟨a, rfl, e⟩
  · cases hv with
    | dT h1 h2 h3 => exact ⟨_, _, rfl, .inr ⟨_, r.fr _ _ h1⟩, .of h2 h3⟩
  · cases hv
    obtain ⟨kvs, e1, h2, h3⟩ := r.dT e
    exact ⟨a, kvs, rfl, .inl e1, .of h2 h3⟩
end
section
variable {K : PySem.W.Frag} {F0 : Hp}
/-! ### fields -/
def dFld (K : PySem.W.Frag) (da : TED) (f : Str) : TED := fun env S P => da env S fun x S1 => ∃ C ds d, Ins S1 x C ds ∧ Cls K C ∧ NoAttr K C f ∧ ds.lookup f = some d ∧ P d S1
instance {ta : TE} {da : TED} {f : Str} [UpE K F0 ta da] : UpE K F0 (tFld K ta f) (dFld K da f) := ⟨fun r0 h le =>
  UpE.up (t := ta) (td := da) r0 h fun x S1 F1 H1 v ⟨C, ds, d, hi, c, n, l, p⟩ s1 r1 v1 => by
    obtain ⟨a, dx, fs, e, e1, kp⟩ := hi.at r1 v1
    obtain ⟨w, lw, hw⟩ := kp.lookup l
    exact ⟨a, C, dx, fs, w, e, e1, c, n, lw, le _ _ _ _ _ p s1 r1 hw⟩⟩
def zFld (K : PySem.W.Frag) (da dv : TED) (f : Str) : TSD := fun P env S => dv env S fun y S1 => da env S1 fun x S2 => ∃ a C ds, x = .ref a ∧ S2 a = some (.ins C ds) ∧ Cls K C ∧ NoAttr K C f ∧ ds.length < 1000 ∧ P.nx env (sup S2 a (.ins C (setF f y ds)))
instance {ta tv : TE} {da dv : TED} {f : Str} [UpE K F0 ta da] [UpE K F0 tv dv] : UpS K F0 (sFld K ta tv f) (zFld K da dv f) := ⟨fun r0 h le =>
  UpE.up (t := tv) (td := dv) r0 h fun y S1 F1 H1 u h1 s1 r1 v1 => UpE.up (t := ta) (td := da) (r0.at s1 r1) h1 fun x S2 F2 H2 v ⟨a, C, ds, e, e1, c, n, hl, p⟩ s2 r2 v2 => by
    subst e; cases v2
    obtain ⟨dx, fs, e2, h2, h3⟩ := r2.ins e1
    have kp : KP K F2 fs ds := .of h2 h3
    have kq := kp.putF (f := f) (v1.mono s2)
    exact ⟨a, C, dx, fs, rfl, e2, c, n, by rw [kp.len]; exact hl, le.nx _ _ _ _ _ p (s1.trans s2) ((r0.at (s1.trans s2) (r2.put e1 (.ins kq.keys kq.vals))))⟩⟩
def zFldAug (K : PySem.W.Frag) (da dv : TED) (rd : R2D) (f : Str) : TSD := fun P env S => da env S fun x S1 => ∃ a C ds d, x = .ref a ∧ S1 a = some (.ins C ds) ∧ Cls K C ∧ NoAttr K C f ∧ ds.lookup f = some d ∧
  dv env S1 fun y S2 => rd d y S2 fun z S3 => ∃ ds', S3 a = some (.ins C ds') ∧ ds'.length < 1000 ∧ P.nx env (sup S3 a (.ins C (setF f z ds')))
instance {ta tv : TE} {da dv : TED} {r : R2} {rd : R2D} {f : Str} [UpE K F0 ta da] [UpE K F0 tv dv] [UpR K F0 r rd] : UpS K F0 (sFldAug K ta tv r f) (zFldAug K da dv rd f) := ⟨fun r0 h le =>
  UpE.up (t := ta) (td := da) r0 h fun x S1 F1 H1 v ⟨a, C, ds, d, e, e1, c, n, l, h1⟩ s1 r1 v1 => by
    subst e; cases v1
    obtain ⟨dx, fs, e2, h2, h3⟩ := r1.ins e1
    have kp : KP K F1 fs ds := .of h2 h3
    obtain ⟨w, lw, hw⟩ := kp.lookup l
    refine ⟨a, C, dx, fs, w, rfl, e2, c, n, lw, UpE.up (t := tv) (td := dv) (r0.at s1 r1) h1 fun y S2 F2 H2 u h4 s2 r2 v2 => UpR.up (r := r) (rd := rd) r2 (hw.mono s2) v2 h4 fun z S3 F3 H3 q ⟨ds', e3, hl, p⟩ s3 r3 v3 => ?_⟩
    obtain ⟨dx', fs', e4, h5, h6⟩ := r3.ins e3
    have kp' : KP K F3 fs' ds' := .of h5 h6
    have kq := kp'.putF (f := f) v3
    exact ⟨dx', fs', e4, by rw [kp'.len]; exact hl, le.nx _ _ _ _ _ p ((s1.trans s2).trans s3) (r0.at ((s1.trans s2).trans s3) (r3.put e3 (.ins kq.keys kq.vals)))⟩⟩
instance : UpR K F0 rAdd (dI0 fun i j => .int (i + j)) := ⟨fun r hv hu ⟨i, j, e1, e2, p⟩ le => by
  subst e1; subst e2; cases hv; cases hu
  exact ⟨i, j, rfl, rfl, le _ _ _ _ _ p (Same.refl _) r (.int _)⟩⟩
instance : UpR K F0 rSub (dI0 fun i j => .int (i - j)) := ⟨fun r hv hu ⟨i, j, e1, e2, p⟩ le => by
  subst e1; subst e2; cases hv; cases hu
  exact ⟨i, j, rfl, rfl, le _ _ _ _ _ p (Same.refl _) r (.int _)⟩⟩
/-! ### places -/
theorem VdAll.atI {F : Hp} {xs : List V} {ds : List D} {i : Int} {d : D} (h : VdAll K F xs ds) (e : L2.atI ds i = some d) : ∃ v, L2.atI xs i = some v ∧ Vd K F v d := by
  unfold L2.atI at e ⊢
  rw [h.len]
  cases q : ixN ds.length i with
  | none => rw [q] at e; cases e
  | some j => rw [q] at e; exact h.get e
def dIxL : R2D := fun x y S P => ∃ ds i d, y = .int i ∧ SeqL S x ds ∧ L2.atI ds i = some d ∧ P d S
instance : UpR K F0 (rIxL K) dIxL := ⟨fun r hv hu ⟨ds, i, d, e1, hs, hd, p⟩ le => by
  subst e1; cases hu
  obtain ⟨a, xs, e, hq, ha⟩ := hs.at r hv
  obtain ⟨w, h1, h2⟩ := ha.atI hd
  exact ⟨a, xs, i, w, e, rfl, hq, h1, le _ _ _ _ _ p (Same.refl _) r h2⟩⟩
def dIxT : R2D := fun x y S P => ∃ ds i d, x = .tup ds ∧ y = .int i ∧ L2.atI ds i = some d ∧ P d S
instance : UpR K F0 (rIxT K) dIxT := ⟨fun r hv hu ⟨ds, i, d, e0, e1, hd, p⟩ le => by
  subst e0; subst e1; cases hu
  obtain ⟨a, xs, e, hq, ha⟩ := tup_at r hv
  obtain ⟨w, h1, h2⟩ := ha.atI hd
  exact ⟨a, xs, i, w, e, rfl, hq, h1, le _ _ _ _ _ p (Same.refl _) r h2⟩⟩
def dIxS : R2D := fun x y S P => ∃ z i c, x = .str z ∧ y = .int i ∧ z.length ≤ sizeLine ∧ L2.atI z.cps.toList i = some c ∧ P (.str ⟨#[c]⟩) S
instance : UpR K F0 rIxS dIxS := ⟨fun r hv hu ⟨z, i, c, e0, e1, hl, hc, p⟩ le => by
  subst e0; subst e1; cases hu; cases hv
  exact ⟨z, i, c, rfl, rfl, hl, hc, le _ _ _ _ _ p (Same.refl _) r (.str _)⟩⟩
inductive IxS (S : Sto) : D → D → D → Prop
  | lst {x : D} {ds : List D} {i : Int} {d : D} : SeqL S x ds → L2.atI ds i = some d → IxS S x (.int i) d
  | tup {ds : List D} {i : Int} {d : D} : L2.atI ds i = some d → IxS S (.tup ds) (.int i) d
  | str {z : Str} {i : Int} {c : Nat} : z.length ≤ sizeLine → L2.atI z.cps.toList i = some c → IxS S (.str z) (.int i) (.str ⟨#[c]⟩)
def dIx : R2D := fun x y S P => ∃ d, IxS S x y d ∧ P d S
instance : UpR K F0 (rIx K) dIx := ⟨fun r hv hu ⟨d, h, p⟩ le => by
  cases h with
  | lst h1 h2 => exact .inl (UpR.up (r := rIxL K) (rd := dIxL) r hv hu ⟨_, _, _, rfl, h1, h2, p⟩ le)
  | tup h2 => exact .inr (.inl (UpR.up (r := rIxT K) (rd := dIxT) r hv hu ⟨_, _, _, rfl, rfl, h2, p⟩ le))
  | str h1 h2 => exact .inr (.inr (UpR.up (r := rIxS) (rd := dIxS) r hv hu ⟨_, _, _, rfl, rfl, h1, h2, p⟩ le))⟩
/-! ### parts -/
abbrev TOD := EnvD → Sto → (Option Int → Sto → Prop) → Prop
class UpO (K : PySem.W.Frag) (F0 : Hp) (t : TO) (td : outParam TOD) : Prop where
  up : ∀ {σ : L2.St} {H : Hp} {Q : Option Int → Hp → Prop} {F : Hp} {S : Sto} {env : EnvD} {P : Option Int → Sto → Prop}, Rel K F0 F S env σ H → td env S P → (∀ x S' F' H', P x S' → Same F F' → RelH K F0 F' S' H' → Q x H') → t σ H Q
def dNoPart : TOD := fun _ S P => P none S
instance : UpO K F0 tNoPart dNoPart := ⟨fun r0 h le => le _ _ _ _ h (Same.refl _) r0.h⟩
def dPart (da : TED) : TOD := fun env S P => da env S fun x S1 => ∃ i, x = .int i ∧ P (some i) S1
instance {ta : TE} {da : TED} [UpE K F0 ta da] : UpO K F0 (tPart ta) (dPart da) := ⟨fun r0 h le =>
  UpE.up (t := ta) (td := da) r0 h fun x S1 F1 H1 v ⟨i, e, p⟩ s1 r1 v1 => by subst e; cases v1; exact ⟨i, rfl, le _ _ _ _ p s1 r1⟩⟩
abbrev RSl := V → Option Int → Option Int → Hp → VK → Prop
abbrev RSlD := D → Option Int → Option Int → Sto → PV → Prop
class UpSl (K : PySem.W.Frag) (F0 : Hp) (r : RSl) (rd : outParam RSlD) : Prop where
  up : ∀ {v : V} {x : D} {lo hi : Option Int} {H : Hp} {Q : VK} {F : Hp} {S : Sto} {P : PV}, RelH K F0 F S H → Vd K F v x → rd x lo hi S P → LeV K F0 F P Q → r v lo hi H Q
def dSl (rd : RSlD) (da : TED) (dl dh : TOD) : TED := fun env S P => da env S fun x S1 => dl env S1 fun l S2 => dh env S2 fun u S3 => rd x l u S3 P
instance {r : RSl} {rd : RSlD} {te : TE} {de : TED} {tl th : TO} {dl dh : TOD} [UpSl K F0 r rd] [UpE K F0 te de] [UpO K F0 tl dl] [UpO K F0 th dh] : UpE K F0 (tSl r te tl th) (dSl rd de dl dh) := ⟨fun r0 h le =>
  UpE.up (t := te) (td := de) r0 h fun x S1 F1 H1 v h1 s1 r1 v1 => UpO.up (t := tl) (td := dl) (r0.at s1 r1) h1 fun l S2 F2 H2 h2 s2 r2 => UpO.up (t := th) (td := dh) (r0.at (s1.trans s2) r2) h2 fun u S3 F3 H3 h3 s3 r3 =>
    UpSl.up (r := r) (rd := rd) r3 ((v1.mono s2).mono s3) h3 (le.mono ((s1.trans s2).trans s3))⟩
def cutD (xs : List D) (lo hi : Option Int) : List D := (xs.drop (HT.sIx xs.length 0 lo)).take (HT.sIx xs.length xs.length hi - HT.sIx xs.length 0 lo)
theorem VdAll.cut {F : Hp} {xs : List V} {ds : List D} (lo hi : Option Int) (h : VdAll K F xs ds) : VdAll K F (cutV xs lo hi) (cutD ds lo hi) := by
  unfold cutV cutD
  rw [h.len]
  exact (h.drop _).take _
def dSlL : RSlD := fun x lo hi S P => ∃ ds, SeqL S x ds ∧ ∀ p, S p = none → P (.ref p) (sup S p (.lst (cutD ds lo hi)))
instance : UpSl K F0 (rSlL K) dSlL := ⟨fun r hv ⟨ds, hs, p⟩ le => by
  obtain ⟨a, xs, e, hq, ha⟩ := hs.at r hv
  exact ⟨a, xs, e, hq, fun q hq => le _ _ _ _ _ (p q (r.free hq).2) (Same.refl _) (r.new hq (.lst (ha.cut _ _))) (.ref q)⟩⟩
def dSlT : RSlD := fun x lo hi S P => ∃ ds, x = .tup ds ∧ ¬ (HT.sIx ds.length 0 lo = 0 ∧ HT.sIx ds.length ds.length hi = ds.length) ∧ P (.tup (cutD ds lo hi)) S
instance : UpSl K F0 (rSlT K) dSlT := ⟨fun r hv ⟨ds, e0, hn, p⟩ le => by
  subst e0
  obtain ⟨a, xs, e, hq, ha⟩ := tup_at r hv
  refine ⟨a, xs, e, hq, by rw [ha.len]; exact hn, fun q hq => ?_⟩
  obtain ⟨s2, r2⟩ := r.newF (ho := .tup (cutV xs _ _)) hq
  exact le _ _ _ _ _ p s2 r2 (.tup upd_same ((ha.cut _ _).mono s2))⟩
/-! ### dicts -/
def dDGet (dd dy : TED) : TED := fun env S P => dd env S fun x S1 => dy env S1 fun y S2 => (∃ kds k d, DicK S2 x kds ∧ y = kD k ∧ getD' kds k = some d ∧ P d S2) ∨ ∃ kds k d, DicT S2 x kds ∧ y = .tup (k.map kD) ∧ getD' kds k = some d ∧ P d S2
theorem vd_keysT {F : Hp} : ∀ {k : List Key} {xs : List V}, VdAll K F xs (k.map kD) → xs = k.map kV
  | [], _, h => by cases h; rfl
  | k :: r, _, h => by
    cases h with
    | cons a b => rw [vd_key a, vd_keysT b]; rfl
theorem dget_at {F : Hp} {S : Sto} {H : Hp} {v u : V} {x y : D} {P : PV} {C : Option D → Sto → Prop} (r : RelH K F0 F S H) (hv : Vd K F v x) (hu : Vd K F u y)
    (h : (∃ kds k, DicK S x kds ∧ y = kD k ∧ C (getD' kds k) S)) : ∃ a o od, v = .ref a ∧ DGet H a u o ∧ C od S ∧ ((o = none ∧ od = none) ∨ ∃ w d, o = some w ∧ od = some d ∧ Vd K F w d) := by
  obtain ⟨kds, k, hd, rfl, c⟩ := h
  obtain ⟨a, kvs, e, rd, kp⟩ := hd.at r hv
  refine ⟨a, valV kvs k, _, e, .inl ⟨kvs, k, rd, vd_key hu, rfl⟩, c, ?_⟩
  rcases kp.getO (k := k) with ⟨e1, e2⟩ | ⟨w, d, e1, e2, h⟩
  · exact .inl ⟨e2, e1⟩
  · exact .inr ⟨w, d, e2, e1, h⟩
instance {td ty : TE} {dd dy : TED} [UpE K F0 td dd] [UpE K F0 ty dy] : UpE K F0 (tDGet td ty) (dDGet dd dy) := ⟨fun r0 h le =>
  UpE.up (t := td) (td := dd) r0 h fun x S1 F1 H1 v h1 s1 r1 v1 => UpE.up (t := ty) (td := dy) (r0.at s1 r1) h1 fun y S2 F2 H2 u h2 s2 r2 v2 => by
    rcases h2 with ⟨kds, k, d, hd, rfl, hg, p⟩ | ⟨kds, k, d, hd, rfl, hg, p⟩
    · obtain ⟨a, kvs, e, rd, kp⟩ := hd.at r2 (v1.mono s2)
      obtain ⟨w, hw, hv⟩ := kp.get hg
      exact ⟨a, w, e, .inl ⟨kvs, k, rd, vd_key v2, hw.symm⟩, le _ _ _ _ _ p (s1.trans s2) r2 hv⟩
    · obtain ⟨a, kvs, e, rd, kp⟩ := hd.at r2 (v1.mono s2)
      obtain ⟨w, hw, hv⟩ := kp.get hg
      cases v2 with
      | tup t1 t2 =>
        rw [vd_keysT t2] at t1
        exact ⟨a, w, e, .inr ⟨kvs, k, _, rd, rfl, r2.fr _ _ t1, hw.symm⟩, le _ _ _ _ _ p (s1.trans s2) r2 hv⟩⟩
/-- what stands by a key -/
def DGot (S : Sto) (x y : D) (o : Option D) : Prop := (∃ kds k, DicK S x kds ∧ y = kD k ∧ o = getD' kds k) ∨ ∃ kds k, DicT S x kds ∧ y = .tup (k.map kD) ∧ o = getD' kds k
theorem DGot.at {F : Hp} {S : Sto} {H : Hp} {v u : V} {x y : D} {o : Option D} (r : RelH K F0 F S H) (hv : Vd K F v x) (hu : Vd K F u y) (h : DGot S x y o) :
    ∃ a ov, v = .ref a ∧ DGet H a u ov ∧ IsD H a ∧ ((o = none ∧ ov = none) ∨ ∃ w d, ov = some w ∧ o = some d ∧ Vd K F w d) := by
  rcases h with ⟨kds, k, hd, rfl, rfl⟩ | ⟨kds, k, hd, rfl, rfl⟩
  · obtain ⟨a, kvs, e, rd, kp⟩ := hd.at r hv
    refine ⟨a, valV kvs k, e, .inl ⟨kvs, k, rd, vd_key hu, rfl⟩, .inl ⟨_, rd⟩, ?_⟩
    rcases kp.getO (k := k) with ⟨e1, e2⟩ | ⟨w, d, e1, e2, h⟩
    · exact .inl ⟨e1, e2⟩
    · exact .inr ⟨w, d, e2, e1, h⟩
  · obtain ⟨a, kvs, e, rd, kp⟩ := hd.at r hv
    cases hu with
    | tup t1 t2 =>
      rw [vd_keysT t2] at t1
      refine ⟨a, valV kvs k, e, .inr ⟨kvs, k, _, rd, rfl, r.fr _ _ t1, rfl⟩, .inr ⟨_, rd⟩, ?_⟩
      rcases kp.getO (k := k) with ⟨e1, e2⟩ | ⟨w, d, e1, e2, h⟩
      · exact .inl ⟨e1, e2⟩
      · exact .inr ⟨w, d, e2, e1, h⟩
def dDIn (dy dd : TED) : TED := fun env S P => dy env S fun y S1 => dd env S1 fun x S2 => ∃ o, DGot S2 x y o ∧ P (.bl o.isSome) S2
def dDNotIn (dy dd : TED) : TED := fun env S P => dy env S fun y S1 => dd env S1 fun x S2 => ∃ o, DGot S2 x y o ∧ P (.bl (!o.isSome)) S2
theorem opt_isSome {F : Hp} {ov : Option V} {o : Option D} (h : (o = none ∧ ov = none) ∨ ∃ w d, ov = some w ∧ o = some d ∧ Vd K F w d) : ov.isSome = o.isSome := by
  rcases h with ⟨rfl, rfl⟩ | ⟨w, d, rfl, rfl, _⟩ <;> rfl
instance {td ty : TE} {dd dy : TED} [UpE K F0 td dd] [UpE K F0 ty dy] : UpE K F0 (tDIn ty td) (dDIn dy dd) := ⟨fun r0 h le =>
  UpE.up (t := ty) (td := dy) r0 h fun y S1 F1 H1 u h1 s1 r1 v1 => UpE.up (t := td) (td := dd) (r0.at s1 r1) h1 fun x S2 F2 H2 v ⟨o, hg, p⟩ s2 r2 v2 => by
    obtain ⟨a, ov, e, dg, _, hh⟩ := hg.at r2 v2 (v1.mono s2)
    exact ⟨a, ov, e, dg, by rw [opt_isSome hh]; exact le _ _ _ _ _ p (s1.trans s2) r2 (.bl _)⟩⟩
instance {td ty : TE} {dd dy : TED} [UpE K F0 td dd] [UpE K F0 ty dy] : UpE K F0 (tDNotIn ty td) (dDNotIn dy dd) := ⟨fun r0 h le =>
  UpE.up (t := ty) (td := dy) r0 h fun y S1 F1 H1 u h1 s1 r1 v1 => UpE.up (t := td) (td := dd) (r0.at s1 r1) h1 fun x S2 F2 H2 v ⟨o, hg, p⟩ s2 r2 v2 => by
    obtain ⟨a, ov, e, dg, _, hh⟩ := hg.at r2 v2 (v1.mono s2)
    exact ⟨a, ov, e, dg, by rw [opt_isSome hh]; exact le _ _ _ _ _ p (s1.trans s2) r2 (.bl _)⟩⟩
def dDGet1 (dd dy : TED) : TED := fun env S P => dd env S fun x S1 => dy env S1 fun y S2 => ∃ o, DGot S1 x y o ∧ DGot S2 x y o ∧ P (o.getD .non) S2
theorem opt_getD {F : Hp} {ov : Option V} {o : Option D} {z : V} {w : D} (hz : Vd K F z w) (h : (o = none ∧ ov = none) ∨ ∃ w d, ov = some w ∧ o = some d ∧ Vd K F w d) : Vd K F (ov.getD z) (o.getD w) := by
  rcases h with ⟨rfl, rfl⟩ | ⟨w, d, rfl, rfl, h⟩
  · exact hz
  · exact h
/-- the thing is a dict -/
def IsDic (S : Sto) (x : D) : Prop := (∃ kds, DicK S x kds) ∨ ∃ kds, DicT S x kds
theorem IsDic.at {F : Hp} {S : Sto} {H : Hp} {v : V} {x : D} (r : RelH K F0 F S H) (hv : Vd K F v x) (h : IsDic S x) : ∃ a, v = .ref a ∧ IsD H a := by
  rcases h with ⟨kds, h⟩ | ⟨kds, h⟩
  · obtain ⟨a, kvs, e, rd, _⟩ := h.at r hv
    exact ⟨a, e, .inl ⟨_, rd⟩⟩
  · obtain ⟨a, kvs, e, rd, _⟩ := h.at r hv
    exact ⟨a, e, .inr ⟨_, rd⟩⟩
def zDGet1 (dd dy : TED) : TED := fun env S P => dd env S fun x S1 => IsDic S1 x ∧ dy env S1 fun y S2 => ∃ o, DGot S2 x y o ∧ P (o.getD .non) S2
instance {td ty : TE} {dd dy : TED} [UpE K F0 td dd] [UpE K F0 ty dy] : UpE K F0 (tDGet1 td ty) (zDGet1 dd dy) := ⟨fun r0 h le =>
  UpE.up (t := td) (td := dd) r0 h fun x S1 F1 H1 v ⟨hi, h1⟩ s1 r1 v1 => by
    obtain ⟨a, e, hd⟩ := hi.at r1 v1
    refine ⟨a, e, hd, UpE.up (t := ty) (td := dy) (r0.at s1 r1) h1 fun y S2 F2 H2 u ⟨o, hg, p⟩ s2 r2 v2 => ?_⟩
    obtain ⟨a', ov, e', dg, _, hh⟩ := hg.at r2 (v1.mono s2) v2
    rw [e] at e'; cases e'
    exact ⟨ov, dg, le _ _ _ _ _ p (s1.trans s2) r2 (opt_getD .non hh)⟩⟩
def zDGet2 (dd dy dx : TED) : TED := fun env S P => dd env S fun x S1 => IsDic S1 x ∧ dy env S1 fun y S2 => dx env S2 fun z S3 => ∃ o, DGot S3 x y o ∧ P (o.getD z) S3
instance {td ty tx : TE} {dd dy dx : TED} [UpE K F0 td dd] [UpE K F0 ty dy] [UpE K F0 tx dx] : UpE K F0 (tDGet2 td ty tx) (zDGet2 dd dy dx) := ⟨fun r0 h le =>
  UpE.up (t := td) (td := dd) r0 h fun x S1 F1 H1 v ⟨hi, h1⟩ s1 r1 v1 => by
    obtain ⟨a, e, hd⟩ := hi.at r1 v1
    refine ⟨a, e, hd, UpE.up (t := ty) (td := dy) (r0.at s1 r1) h1 fun y S2 F2 H2 u h2 s2 r2 v2 => UpE.up (t := tx) (td := dx) (r0.at (s1.trans s2) r2) h2 fun z S3 F3 H3 w ⟨o, hg, p⟩ s3 r3 v3 => ?_⟩
    obtain ⟨a', ov, e', dg, _, hh⟩ := hg.at r3 ((v1.mono s2).mono s3) (v2.mono s3)
    rw [e] at e'; cases e'
    exact ⟨ov, dg, le _ _ _ _ _ p ((s1.trans s2).trans s3) r3 (opt_getD v3 hh)⟩⟩
def zDPop1 (dd dy : TED) : TED := fun env S P => dd env S fun x S1 => ∃ a, x = .ref a ∧ IsDic S1 x ∧ dy env S1 fun y S2 => ∃ kds k d, S2 a = some (.dK kds) ∧ y = kD k ∧ getD' kds k = some d ∧ P d (sup S2 a (.dK (dropD kds k)))
instance {td ty : TE} {dd dy : TED} [UpE K F0 td dd] [UpE K F0 ty dy] : UpE K F0 (tDPop1 td ty) (zDPop1 dd dy) := ⟨fun r0 h le =>
  UpE.up (t := td) (td := dd) r0 h fun x S1 F1 H1 v ⟨a, e, hi, h1⟩ s1 r1 v1 => by
    subst e
    obtain ⟨a', e', hd⟩ := hi.at r1 v1
    cases v1; cases e'
    refine ⟨a, rfl, hd, UpE.up (t := ty) (td := dy) (r0.at s1 r1) h1 fun y S2 F2 H2 u ⟨kds, k, d, e2, ey, hg, p⟩ s2 r2 v2 => ?_⟩
    subst ey
    obtain ⟨kvs, e3, h3, h4⟩ := r2.dK e2
    have kp : KP K F2 kvs kds := .of h3 h4
    obtain ⟨w, hw, hv⟩ := kp.get hg
    have kq := kp.drop (k := k)
    exact ⟨kvs, k, w, e3, vd_key v2, hw, le _ _ _ _ _ p (s1.trans s2) (r2.put e2 (.dK kq.keys kq.vals)) hv⟩⟩
def zDPop2 (dd dy dx : TED) : TED := fun env S P => dd env S fun x S1 => ∃ a, x = .ref a ∧ IsDic S1 x ∧ dy env S1 fun y S2 => dx env S2 fun z S3 => ∃ kds k, S3 a = some (.dK kds) ∧ y = kD k ∧
  (∀ d, getD' kds k = some d → P d (sup S3 a (.dK (dropD kds k)))) ∧ (getD' kds k = none → P z S3)
instance {td ty tx : TE} {dd dy dx : TED} [UpE K F0 td dd] [UpE K F0 ty dy] [UpE K F0 tx dx] : UpE K F0 (tDPop2 td ty tx) (zDPop2 dd dy dx) := ⟨fun r0 h le =>
  UpE.up (t := td) (td := dd) r0 h fun x S1 F1 H1 v ⟨a, e, hi, h1⟩ s1 r1 v1 => by
    subst e
    obtain ⟨a', e', hd⟩ := hi.at r1 v1
    cases v1; cases e'
    refine ⟨a, rfl, hd, UpE.up (t := ty) (td := dy) (r0.at s1 r1) h1 fun y S2 F2 H2 u h2 s2 r2 v2 => UpE.up (t := tx) (td := dx) (r0.at (s1.trans s2) r2) h2 fun z S3 F3 H3 w ⟨kds, k, e2, ey, p1, p2⟩ s3 r3 v3 => ?_⟩
    subst ey
    obtain ⟨kvs, e3, h3, h4⟩ := r3.dK e2
    have kp : KP K F3 kvs kds := .of h3 h4
    have kq := kp.drop (k := k)
    refine ⟨kvs, k, e3, vd_key v2, fun w' hw => ?_, fun hw => ?_⟩
    · rcases kp.getO (k := k) with ⟨_, e5⟩ | ⟨w2, d, e4, e5, hv⟩
      · rw [e5] at hw; cases hw
      · rw [e5] at hw; cases hw
        exact le _ _ _ _ _ (p1 d e4) ((s1.trans s2).trans s3) (r3.put e2 (.dK kq.keys kq.vals)) hv
    · rcases kp.getO (k := k) with ⟨e4, _⟩ | ⟨w2, d, e4, e5, hv⟩
      · exact le _ _ _ _ _ (p2 e4) ((s1.trans s2).trans s3) r3 v3
      · rw [e5] at hw; cases hw⟩
/-- d[y] = v -/
def DPutD (S : Sto) (a : Addr) (y v : D) (S' : Sto) : Prop := (∃ kds k, S a = some (.dK kds) ∧ y = kD k ∧ kds.length < sizeLine ∧ S' = sup S a (.dK (putD kds k v))) ∨ ∃ kds k, S a = some (.dT kds) ∧ y = .tup (k.map kD) ∧ kds.length < sizeLine ∧ S' = sup S a (.dT (putD kds k v))
theorem DPutD.at {F : Hp} {S S' : Sto} {H : Hp} {a : Addr} {u w : V} {y z : D} (r : RelH K F0 F S H) (hu : Vd K F u y) (hw : Vd K F w z) (h : DPutD S a y z S') : ∃ H', DPut H a u w H' ∧ RelH K F0 F S' H' := by
  rcases h with ⟨kds, k, e, rfl, hl, rfl⟩ | ⟨kds, k, e, rfl, hl, rfl⟩
  · obtain ⟨kvs, e3, h3, h4⟩ := r.dK e
    have kp : KP K F kvs kds := .of h3 h4
    have kq := kp.put (k := k) hw
    exact ⟨_, .inl ⟨kvs, k, e3, vd_key hu, by rw [kp.len]; exact hl, rfl⟩, r.put e (.dK kq.keys kq.vals)⟩
  · obtain ⟨kvs, e3, h3, h4⟩ := r.dT e
    have kp : KP K F kvs kds := .of h3 h4
    have kq := kp.put (k := k) hw
    cases hu with
    | tup t1 t2 =>
      rw [vd_keysT t2] at t1
      exact ⟨_, .inr ⟨kvs, k, _, e3, rfl, r.fr _ _ t1, by rw [kp.len]; exact hl, rfl⟩, r.put e (.dT kq.keys kq.vals)⟩
def zDPut (dd dy dv : TED) : TSD := fun P env S => dv env S fun v S1 => dd env S1 fun x S2 => dy env S2 fun y S3 => ∃ a S4, x = .ref a ∧ DPutD S3 a y v S4 ∧ P.nx env S4
instance {td ty tv : TE} {dd dy dv : TED} [UpE K F0 td dd] [UpE K F0 ty dy] [UpE K F0 tv dv] : UpS K F0 (sDPut td ty tv) (zDPut dd dy dv) := ⟨fun r0 h le =>
  UpE.up (t := tv) (td := dv) r0 h fun v S1 F1 H1 w h1 s1 r1 v1 => UpE.up (t := td) (td := dd) (r0.at s1 r1) h1 fun x S2 F2 H2 u h2 s2 r2 v2 => UpE.up (t := ty) (td := dy) (r0.at (s1.trans s2) r2) h2 fun y S3 F3 H3 u3 ⟨a, S4, e, hp, p⟩ s3 r3 v3 => by
    subst e; cases v2
    obtain ⟨H', dp, r4⟩ := hp.at r3 v3 ((v1.mono s2).mono s3)
    exact ⟨a, H', rfl, dp, le.nx _ _ _ _ _ p ((s1.trans s2).trans s3) (r0.at ((s1.trans s2).trans s3) r4)⟩⟩
/-! ### stores to a place -/
abbrev TSetD := D → D → D → Sto → (Sto → Prop) → Prop
class UpSet (K : PySem.W.Frag) (F0 : Hp) (t : TSet) (td : outParam TSetD) : Prop where
  up : ∀ {o i v : V} {x y z : D} {H : Hp} {Q : Hp → Prop} {F : Hp} {S : Sto} {P : Sto → Prop}, RelH K F0 F S H → Vd K F o x → Vd K F i y → Vd K F v z → td x y z S P → (∀ S' F' H', P S' → Same F F' → RelH K F0 F' S' H' → Q H') → t o i v H Q
def dSetL : TSetD := fun x y z S P => ∃ a ds k j, x = .ref a ∧ y = .int k ∧ S a = some (.lst ds) ∧ ixN ds.length k = some j ∧ P (sup S a (.lst (ds.set j z)))
instance : UpSet K F0 rSetL dSetL := ⟨fun r h1 h2 h3 ⟨a, ds, k, j, e1, e2, e3, e4, p⟩ le => by
  subst e1; subst e2; cases h1; cases h2
  obtain ⟨xs, e5, hx⟩ := r.lst e3
  exact ⟨a, xs, k, j, rfl, rfl, e5, by rw [hx.len]; exact e4, le _ _ _ p (Same.refl _) (r.put e3 (.lst (hx.set h3 j)))⟩⟩
def dSetD : TSetD := fun x y z S P => ∃ a S', x = .ref a ∧ DPutD S a y z S' ∧ P S'
instance : UpSet K F0 (fun o i v H Q => ∃ a H', o = .ref a ∧ DPut H a i v H' ∧ Q H') dSetD := ⟨fun r h1 h2 h3 ⟨a, S', e1, hp, p⟩ le => by
  subst e1; cases h1
  obtain ⟨H', dp, r4⟩ := hp.at r h2 h3
  exact ⟨a, H', rfl, dp, le _ _ _ p (Same.refl _) r4⟩⟩
def kSub (dd dy : TED) (td : TSetD) : TGD := fun z env S P => dd env S fun x S1 => dy env S1 fun y S2 => td x y z S2 fun S3 => P env S3
instance {to ti : TE} {dd dy : TED} {t : TSet} {td : TSetD} [UpE K F0 to dd] [UpE K F0 ti dy] [UpSet K F0 t td] : UpG K F0 (gSub to ti t) (kSub dd dy td) := ⟨fun r0 hv h le =>
  UpE.up (t := to) (td := dd) r0 h fun x S1 F1 H1 v h1 s1 r1 v1 => UpE.up (t := ti) (td := dy) (r0.at s1 r1) h1 fun y S2 F2 H2 u h2 s2 r2 v2 =>
    UpSet.up (t := t) (td := td) r2 (v1.mono s2) v2 ((hv.mono s1).mono s2) h2 fun S3 F3 H3 p s3 r3 => le _ _ _ _ _ p ((s1.trans s2).trans s3) (r0.at ((s1.trans s2).trans s3) r3)⟩
end
end L2.VW

/-! ## calls, methods, plain data -/
namespace L2.VW
open PySem PySem.Spec PyProof.Rows
/-! ### promises -/
abbrev SpD := List D → Sto → PV → XD → Prop
def upSp (K : PySem.W.Frag) (sp : SpD) : Sp := fun vs H Q E => ∃ F S ds P PE, RelH K F F S H ∧ VdAll K F vs ds ∧ sp ds S P PE ∧ LeV K F F P Q ∧ LeX K F F PE E
/-- what is wanted of errors, from the entry on -/
class XLe (K : PySem.W.Frag) (F0 : Hp) (E : XK) (PE : outParam XD) : Prop where
  le : LeX K F0 F0 PE E
def noE : XK := fun _ _ _ => False
def noX : XD := fun _ _ _ => False
section
variable {K : PySem.W.Frag} {F0 : Hp}
instance : XLe K F0 noE noX := ⟨fun _ _ _ _ _ _ h => h.elim⟩
theorem RelH.base {F : Hp} {S : Sto} {H : Hp} (r : RelH K F0 F S H) : RelH K F F S H := ⟨Same.refl _, r.fr, r.tr⟩
theorem RelH.from {F F' : Hp} {S : Sto} {H : Hp} (s : Same F0 F) (r : RelH K F F' S H) : RelH K F0 F' S H := ⟨s.trans r.s0, r.fr, r.tr⟩
theorem LeV.sub {F : Hp} {P : PV} {Q : VK} (s : Same F0 F) (h : LeV K F0 F P Q) : LeV K F F P Q := fun x S F' H v p t r => h x S F' H v p t (r.from s)
theorem LeX.sub {F : Hp} {P : XD} {E : XK} (s : Same F0 F) (h : LeX K F0 F0 P E) : LeX K F F P E := fun C ds S F' H d p t r => h C ds S F' H d p (s.trans t) (r.from s)
theorem upSp.at {sp : SpD} {vs : List V} {ds : List D} {F : Hp} {S : Sto} {H : Hp} {Q : VK} {E : XK} {P : PV} {PE : XD} [x : XLe K F0 E PE] (r : RelH K F0 F S H) (hv : VdAll K F vs ds) (h : sp ds S P PE) (le : LeV K F0 F P Q) : upSp K sp vs H Q E :=
  ⟨F, S, ds, P, PE, r.base, hv, h, le.sub r.s0, x.le.sub r.s0⟩
def dCall (spd : SpD) (dvs : List V) (PE : XD) (da : TAD) : TED := fun env S P => da env S fun xs S1 => spd (xs ++ dvs.map toD) S1 P PE
instance {spd : SpD} {dvs : List V} {E : XK} {PE : XD} {ta : TA} {da : TAD} [UpA K F0 ta da] [XLe K F0 E PE] : UpE K F0 (tCall (upSp K spd) dvs E ta) (dCall spd dvs PE da) := ⟨fun r0 h le =>
  UpA.up (t := ta) (td := da) r0 h fun xs S1 F1 H1 vs h1 s1 r1 v1 => upSp.at (PE := PE) r1 (v1.app (.to dvs)) h1 (le.mono s1)⟩
def dMeth (K : PySem.W.Frag) (C : Addr) (m : Str) (spd : SpD) (dvs : List V) (PE : XD) (da : TED) (dt : TAD) : TED := fun env S P => da env S fun x S1 => ∃ ds, Ins S1 x C ds ∧ ds.lookup m = none ∧ dt env S1 fun xs S2 => spd (x :: (xs ++ dvs.map toD)) S2 P PE
instance {C : Addr} {m : Str} {spd : SpD} {dvs : List V} {E : XK} {PE : XD} {ta : TE} {da : TED} {t : TA} {dt : TAD} [UpE K F0 ta da] [UpA K F0 t dt] [XLe K F0 E PE] : UpE K F0 (tMeth C m (upSp K spd) dvs E ta t) (dMeth K C m spd dvs PE da dt) := ⟨fun r0 h le =>
  UpE.up (t := ta) (td := da) r0 h fun x S1 F1 H1 v ⟨ds, hi, hl, h1⟩ s1 r1 v1 => by
    obtain ⟨a, dx, fs, e, e1, kp⟩ := hi.at r1 v1
    exact ⟨a, dx, fs, e, e1, kp.lookupN hl, UpA.up (t := t) (td := dt) (r0.at s1 r1) h1 fun xs S2 F2 H2 vs h2 s2 r2 v2 => upSp.at (PE := PE) r2 (.cons (v1.mono s2) (v2.app (.to dvs))) h2 (le.mono (s1.trans s2))⟩⟩
def dMake (C : Addr) (spd : SpD) (dvs : List V) (PE : XD) (dt : TAD) : TED := fun env S P => dt env S fun xs S1 => ∀ p, S1 p = none → spd (.ref p :: (xs ++ dvs.map toD)) (sup S1 p (.ins C [])) (fun v S2 => v = .non ∧ P (.ref p) S2) PE
theorem RelH.grow {F : Hp} {S : Sto} {H H' : Hp} (s : Same H H') (r : RelH K F0 F S H) : RelH K F0 F S H' := ⟨r.s0, r.fr.trans s, fun a o e => by
  obtain ⟨h1, ho, h2, h3⟩ := r.tr a o e
  exact ⟨h1, ho, s _ _ h2, h3⟩⟩
instance {C : Addr} {spd : SpD} {dvs : List V} {E : XK} {PE : XD} {t : TA} {dt : TAD} [UpA K F0 t dt] [XLe K F0 E PE] : UpE K F0 (tMake C (upSp K spd) dvs E t) (dMake C spd dvs PE dt) := ⟨fun r0 h le =>
  UpA.up (t := t) (td := dt) r0 h fun xs S1 F1 H1 vs h1 s1 r1 v1 => fun p dx hp hd hn => by
    have g : Same H1 (upd H1 dx (.own p)) := fun b u e => by rw [upd_ne (ne_of_none e hd)]; exact e
    have r2 := r1.grow g
    have hp2 : upd H1 dx (.own p) p = none := by rw [upd_ne (Ne.symm hn)]; exact hp
    have r3 := r2.new (o := .ins C []) hp2 (.ins (dx := dx) (fs := []) (ds := []) rfl .nil)
    exact upSp.at (PE := PE) r3 (.cons (.ref p) (v1.app (.to dvs))) (h1 p (r1.free hp).2) fun x S2 F2 H2 v ⟨e, p2⟩ s2 r4 v4 => by
      subst e; cases v4
      exact ⟨rfl, le _ _ _ _ _ p2 (s1.trans s2) r4 (.ref p)⟩⟩
/-! ### a def's body -/
theorem starts {F : Hp} {n : Nat} : ∀ {vs : List V} {ds : List D}, VdAll K F vs ds → RelS K F (vs.map some ++ List.replicate n none) (ds.map some ++ List.replicate n none)
  | _, _, .nil => by
    show RelS K F (List.replicate n none) (List.replicate n none)
    induction n with
    | zero => exact .nil
    | succ n ih => exact .cons (fun _ e => by cases e) ih
  | _, _, .cons a t => .cons (fun d e => ⟨_, rfl, by cases e; exact a⟩) (starts t)
theorem body_up {N : List Str} {t : TS} {td : TSD} {F : Hp} {S : Sto} {H : Hp} {vs : List V} {ds : List D} {P : PV} {Q : VK} [UpS K F t td] (r : RelH K F F S H) (hv : VdAll K F vs ds) (le : LeV K F F P Q)
    (h : td { nx := fun _ S' => P .non S', rt := P } (ds.map some ++ List.replicate (N.length - ds.length) none) S) : t { nx := fun _ H' => Q .non H', rt := Q } (start N vs) H := by
  refine UpS.up (t := t) (td := td) (F0 := F) ⟨r, ?_⟩ h ⟨fun _ _ _ _ _ p s r1 => le _ _ _ _ _ p s r1.h .non, le, fun _ _ _ _ _ p => p.elim, fun _ _ _ _ _ p => p.elim⟩
  unfold start
  rw [hv.len]
  exact starts hv
/-- the objects that the body made itself need not be told of at the end -/
inductive Lss (P : PV) (x : D) (S : Sto) : Prop
  | mk (S2 : Sto) : (∀ a o, S2 a = some o → S a = some o) → P x S2 → Lss P x S
theorem body_less {N : List Str} {t : TS} {td : TSD} {F : Hp} {S : Sto} {H : Hp} {vs : List V} {ds : List D} {P : PV} {Q : VK} [UpS K F t td] (r : RelH K F F S H) (hv : VdAll K F vs ds) (le : LeV K F F P Q)
    (h : td { nx := fun _ S' => Lss P .non S', rt := Lss P } (ds.map some ++ List.replicate (N.length - ds.length) none) S) : t { nx := fun _ H' => Q .non H', rt := Q } (start N vs) H :=
  body_up (P := Lss P) r hv (fun _ _ _ _ _ p s r1 v => by obtain ⟨S2, h2, p⟩ := p; exact le _ _ _ _ _ p s (r1.less h2) v) h
theorem less_sup {S : Sto} {L : Addr} {u : HD} (h : S L = none) : ∀ a o, S a = some o → sup S L u a = some o := fun a o e => by
  rw [sup_ne (fun z => by rw [z, h] at e; cases e)]; exact e
theorem less_id {P : PV} {x : D} {S : Sto} (h : P x S) : Lss P x S := ⟨S, fun _ _ e => e, h⟩
theorem upSp.len {sp : SpD} {n : Nat} (h : ∀ ds S P PE, sp ds S P PE → ds.length = n) : ∀ vs H Q E, upSp K sp vs H Q E → vs.length = n := fun vs H Q E ⟨F, S, ds, P, PE, _, hv, hs, _⟩ => by rw [hv.len]; exact h _ _ _ _ hs
/-! ### an object that may change becomes data -/
def dKeepL (da : TED) : TED := fun env S P => da env S fun x S1 => ∃ ds, (∃ a, x = .ref a ∧ S1 a = some (.lst ds) ∧ P (.lst ds) (sdel S1 a))
/-- the reading is the same; only what is known of it changes -/
def tKp (t : TE) : TE := t
theorem pe_kp {X : Cx} {e : Expr} {t : TE} (h : PE X e t) : PE X e (tKp t) := h
def dKp (da : TED) : TED := fun env S P => da env S fun x S1 => (∃ a ds, x = .ref a ∧ S1 a = some (.lst ds) ∧ P (.lst ds) (sdel S1 a)) ∨ (∃ a C ds, x = .ref a ∧ S1 a = some (.ins C ds) ∧ P (.ins C ds) (sdel S1 a))
instance {ta : TE} {da : TED} [UpE K F0 ta da] : UpE K F0 (tKp ta) (dKp da) := ⟨fun r0 h le => by
  show ta _ _ _
  exact UpE.up (t := ta) (td := da) r0 h fun x S1 F1 H1 v h1 s1 r1 v1 => by
    rcases h1 with ⟨a, ds, e, e1, p⟩ | ⟨a, C, ds, e, e1, p⟩
    · subst e; cases v1
      obtain ⟨xs, e2, h2⟩ := r1.lst e1
      obtain ⟨s2, r2⟩ := r1.keep e1 e2
      exact le _ _ _ _ _ p (s1.trans s2) r2 (.lst upd_same (h2.mono s2))
    · subst e; cases v1
      obtain ⟨dx, fs, e2, h2, h3⟩ := r1.ins e1
      obtain ⟨s2, r2⟩ := r1.keep e1 e2
      exact le _ _ _ _ _ p (s1.trans s2) r2 (.ins upd_same h2 (h3.mono s2))⟩
/-- a dict, sealed -/
def tSl2 (t : TE) : TE := fun σ H Q => t σ H fun x H1 => ∃ d u, x = .ref d ∧ H1 d = some u ∧ ((∃ kvs, u = .dK kvs) ∨ ∃ kvs, u = .dT kvs) ∧ ∀ od, Q x (upd H1 d (.frz od u))
theorem pe_kd {X : Cx} {e : Expr} {t : TE} (h : PE X e t) : PE X e (tSl2 t) := by
  refine ⟨fun pins s σ H Q I hw => ?_⟩
  refine thn (h.run pins s σ H _ I hw) fun v s1 ⟨x, H1, I1, r, d, u, ex, hd, hu, q⟩ => ?_
  have mu : Mut (some u) := by rcases hu with ⟨_, rfl⟩ | ⟨_, rfl⟩ <;> exact True.intro
  obtain ⟨od, I2⟩ := I1.lock hd mu
  exact ⟨x, _, I2, r, q od⟩
def dSl2 (da : TED) : TED := fun env S P => da env S fun x S1 => (∃ a ds, x = .ref a ∧ S1 a = some (.dK ds) ∧ P (.dK ds) (sdel S1 a)) ∨ (∃ a ds, x = .ref a ∧ S1 a = some (.dT ds) ∧ P (.dT ds) (sdel S1 a))
instance {ta : TE} {da : TED} [UpE K F0 ta da] : UpE K F0 (tSl2 ta) (dSl2 da) := ⟨fun r0 h le =>
  UpE.up (t := ta) (td := da) r0 h fun x S1 F1 H1 v h1 s1 r1 v1 => by
    rcases h1 with ⟨a, ds, e, e1, p⟩ | ⟨a, ds, e, e1, p⟩
    · subst e; cases v1
      obtain ⟨xs, e2, h2, h3⟩ := r1.dK e1
      refine ⟨a, _, rfl, e2, .inl ⟨_, rfl⟩, fun od => ?_⟩
      obtain ⟨s2, r2⟩ := r1.seal (ho := .dK xs) (ho' := .frz od (.dK xs)) e1
      exact le _ _ _ _ _ p (s1.trans s2) r2 (.dK upd_same h2 (h3.mono s2))
    · subst e; cases v1
      obtain ⟨xs, e2, h2, h3⟩ := r1.dT e1
      refine ⟨a, _, rfl, e2, .inr ⟨_, rfl⟩, fun od => ?_⟩
      obtain ⟨s2, r2⟩ := r1.seal (ho := .dT xs) (ho' := .frz od (.dT xs)) e1
      exact le _ _ _ _ _ p (s1.trans s2) r2 (.dT upd_same h2 (h3.mono s2))⟩
end
/-! ### plain data -/
mutual
def py : D → Option PyData
  | .non => some .none
  | .bl b => some (.bool b)
  | .int i => some (.int i)
  | .str z => some (.str z)
  | .lst xs => (pyAll xs).map .list
  | .tup xs => (pyAll xs).map .tuple
  | _ => none
def pyAll : List D → Option (List PyData)
  | [] => some []
  | x :: r => (py x).bind fun p => (pyAll r).map fun ps => p :: ps
end
mutual
def dOf : PyData → D
  | .none => .non
  | .bool b => .bl b
  | .int i => .int i
  | .str z => .str z
  | .list xs => .lst (dOfAll xs)
  | .tuple xs => .tup (dOfAll xs)
  | .dict _ => .non
def dOfAll : List PyData → List D
  | [] => []
  | x :: r => dOf x :: dOfAll r
end
section
variable {K : PySem.W.Frag} {F : Hp}
mutual
theorem dp_of : ∀ {x : D} {v : V} {p : PyData}, py x = some p → Vd K F v x → Dp K F v p
  | .non, _, _, e, h => by cases h; simp [py] at e; subst e; exact .non
  | .bl b, _, _, e, h => by cases h; simp [py] at e; subst e; exact .bl b
  | .int b, _, _, e, h => by cases h; simp [py] at e; subst e; exact .int b
  | .str b, _, _, e, h => by cases h; simp [py] at e; subst e; exact .str b
  | .byt b, _, _, e, h => by simp [py] at e
  | .flt b, _, _, e, h => by simp [py] at e
  | .ref b, _, _, e, h => by simp [py] at e
  | .ty b, _, _, e, h => by simp [py] at e
  | .dK b, _, _, e, h => by simp [py] at e
  | .dT b, _, _, e, h => by simp [py] at e
  | .ins b c, _, _, e, h => by simp [py] at e
  | .seq b, _, _, e, h => by simp [py] at e
  | .lst xs, _, _, e, h => by
    rw [py] at e
    cases q : pyAll xs with
    | none => rw [q] at e; cases e
    | some ps =>
      rw [q] at e; cases e
      cases h with
      | lst h1 h2 => exact .lst (.inl (.inl h1)) (dpAll_of q h2)
  | .tup xs, _, _, e, h => by
    rw [py] at e
    cases q : pyAll xs with
    | none => rw [q] at e; cases e
    | some ps =>
      rw [q] at e; cases e
      cases h with
      | tup h1 h2 => exact .tup (.inl (.inl h1)) (dpAll_of q h2)
theorem dpAll_of : ∀ {xs : List D} {vs : List V} {ps : List PyData}, pyAll xs = some ps → VdAll K F vs xs → DpAll K F vs ps
  | [], _, _, e, h => by cases h; simp [pyAll] at e; subst e; exact .nil
  | x :: r, _, _, e, h => by
    rw [pyAll] at e
    cases q : py x with
    | none => rw [q] at e; cases e
    | some p =>
      rw [q] at e
      cases q2 : pyAll r with
      | none => rw [q2] at e; cases e
      | some ps =>
        rw [q2] at e; cases e
        cases h with
        | cons a b => exact .cons (dp_of q a) (dpAll_of q2 b)
end
mutual
theorem py_dOf : ∀ {p : PyData}, p.hasDict = false → py (dOf p) = some p
  | .none, _ => by simp [dOf, py]
  | .bool _, _ => by simp [dOf, py]
  | .int _, _ => by simp [dOf, py]
  | .str _, _ => by simp [dOf, py]
  | .list xs, h => by
    have h' : PyData.hasDictAll xs = false := by simpa [PyData.hasDict] using h
    simp [dOf, py, pyAll_dOf h']
  | .tuple xs, h => by
    have h' : PyData.hasDictAll xs = false := by simpa [PyData.hasDict] using h
    simp [dOf, py, pyAll_dOf h']
  | .dict _, h => by simp [PyData.hasDict] at h
theorem pyAll_dOf : ∀ {ps : List PyData}, PyData.hasDictAll ps = false → pyAll (dOfAll ps) = some ps
  | [], _ => by simp [dOfAll, pyAll]
  | p :: r, h => by
    have h' : p.hasDict = false ∧ PyData.hasDictAll r = false := by simpa [PyData.hasDictAll] using h
    simp [dOfAll, pyAll, py_dOf h'.1, pyAll_dOf h'.2]
end
end
end L2.VW

/-! ## walks: for, comprehensions, while -/
namespace L2.VW
open PySem PySem.Spec PyProof.Rows
structure WD where
  n : Nat
  ok : Sto → Prop
  item : Nat → D → Prop
abbrev TID := EnvD → Sto → (WD → Sto → Prop) → Prop
/-- how an iterator of the heap goes by the items told -/
structure WLink (K : PySem.W.Frag) (F0 F1 : Hp) (J : It) (w : WD) : Prop where
  goes : ∀ i F S H, i < w.n → Same F1 F → RelH K F0 F S H → w.ok S → J.go i H
  stops : ∀ F S H, Same F1 F → RelH K F0 F S H → w.ok S → J.stop w.n H
  yields : ∀ i F S H x H', i < w.n → Same F1 F → RelH K F0 F S H → w.ok S → J.yld i H x H' → ∃ F' d, Same F F' ∧ RelH K F0 F' S H' ∧ Same H H' ∧ Vd K F' x d ∧ w.item i d
class UpI (K : PySem.W.Frag) (F0 : Hp) (t : TI) (td : outParam TID) : Prop where
  up : ∀ {σ : L2.St} {H : Hp} {Q : It → Hp → Prop} {F : Hp} {S : Sto} {env : EnvD} {P : WD → Sto → Prop}, Rel K F0 F S env σ H → td env S P → (∀ w S' F' H' J, P w S' → Same F F' → RelH K F0 F' S' H' → WLink K F0 F' J w → Q J H') → t σ H Q
section
variable {K : PySem.W.Frag} {F0 : Hp}
def wL (x : D) (ds : List D) : WD := ⟨ds.length, fun S => SeqL S x ds, fun i d => ds[i]? = some d⟩
theorem link_list {F1 : Hp} {a : Addr} {v : V} {x : D} {ds : List D} (hv : Vd K F1 v x) (e : v = .ref a) : WLink K F0 F1 (Itl K a) (wL x ds) := by
  subst e
  have at_ : ∀ {F S H}, Same F1 F → RelH K F0 F S H → SeqL S x ds → ∃ xs, SqL K H a xs ∧ VdAll K F xs ds := fun s r h => by
    obtain ⟨a', xs, e, hq, hl⟩ := h.at r (hv.mono s)
    cases e
    exact ⟨xs, hq, hl⟩
  refine ⟨fun i F S H hi s r h => ?_, fun F S H s r h => ?_, fun i F S H y H' hi s r h hy => ?_⟩
  · obtain ⟨xs, hq, hl⟩ := at_ s r h
    have hi' : i < xs.length := by rw [hl.len]; exact hi
    exact ⟨xs, xs[i], hq, by simp [hi']⟩
  · obtain ⟨xs, hq, hl⟩ := at_ s r h
    exact ⟨xs, hq, by rw [hl.len]; exact Nat.le_refl _⟩
  · obtain ⟨xs, hq, hl⟩ := at_ s r h
    obtain ⟨rfl, hx⟩ := hy
    obtain ⟨d, h1, h2⟩ := hl.getL (hx xs hq)
    exact ⟨F, d, Same.refl _, r, Same.refl _, h2, h1⟩
def jList (da : TED) : TID := fun env S P => da env S fun x S1 => ∃ ds, SeqL S1 x ds ∧ P (wL x ds) S1
instance {ta : TE} {da : TED} [UpE K F0 ta da] : UpI K F0 (iList K ta) (jList da) := ⟨fun r0 h le =>
  UpE.up (t := ta) (td := da) r0 h fun x S1 F1 H1 v ⟨ds, hs, p⟩ s1 r1 v1 => by
    obtain ⟨a, xs, e, hq, hl⟩ := hs.at r1 v1
    exact ⟨a, e, ⟨xs, hq⟩, le _ _ _ _ _ p s1 r1 (link_list v1 e)⟩⟩
def wT (ds : List D) : WD := ⟨ds.length, fun _ => True, fun i d => ds[i]? = some d⟩
theorem link_tup {F1 : Hp} {a : Addr} {v : V} {ds : List D} (hv : Vd K F1 v (.tup ds)) (e : v = .ref a) : WLink K F0 F1 (Itt K a) (wT ds) := by
  subst e
  have at_ : ∀ {F S H}, Same F1 F → RelH K F0 F S H → ∃ xs, SqT K H a xs ∧ VdAll K F xs ds := fun s r => by
    obtain ⟨a', xs, e, hq, hl⟩ := tup_at r (hv.mono s)
    cases e
    exact ⟨xs, hq, hl⟩
  refine ⟨fun i F S H hi s r h => ?_, fun F S H s r h => ?_, fun i F S H y H' hi s r h hy => ?_⟩
  · obtain ⟨xs, hq, hl⟩ := at_ s r
    have hi' : i < xs.length := by rw [hl.len]; exact hi
    exact ⟨xs, xs[i], hq, by simp [hi']⟩
  · obtain ⟨xs, hq, hl⟩ := at_ s r
    exact ⟨xs, hq, by rw [hl.len]; exact Nat.le_refl _⟩
  · obtain ⟨xs, hq, hl⟩ := at_ s r
    obtain ⟨rfl, hx⟩ := hy
    obtain ⟨d, h1, h2⟩ := hl.getL (hx xs hq)
    exact ⟨F, d, Same.refl _, r, Same.refl _, h2, h1⟩
def jTup (da : TED) : TID := fun env S P => da env S fun x S1 => ∃ ds, x = .tup ds ∧ P (wT ds) S1
instance {ta : TE} {da : TED} [UpE K F0 ta da] : UpI K F0 (iTup K ta) (jTup da) := ⟨fun r0 h le =>
  UpE.up (t := ta) (td := da) r0 h fun x S1 F1 H1 v ⟨ds, hs, p⟩ s1 r1 v1 => by
    subst hs
    obtain ⟨a, xs, e, hq, hl⟩ := tup_at r1 v1
    exact ⟨a, e, ⟨xs, hq⟩, le _ _ _ _ _ p s1 r1 (link_tup v1 e)⟩⟩
def wR (lo : Int) (n : Nat) : WD := ⟨n, fun _ => True, fun i d => d = .int (lo + i)⟩
theorem link_rng {F1 : Hp} {lo : Int} {n : Nat} : WLink K F0 F1 (Itr lo n) (wR lo n) :=
  ⟨fun i F S H hi _ _ _ => hi, fun _ _ _ _ _ _ => Nat.le_refl _, fun i F S H x H' hi s r _ ⟨e1, e2⟩ => by subst e1; subst e2; exact ⟨F, .int (lo + i), Same.refl _, r, Same.refl _, .int _, rfl⟩⟩
def jRng1 (da : TAD) : TID := fun env S P => da env S fun xs S1 => ∃ j : Int, xs = [.int j] ∧ (-(2 ^ 62) ≤ j ∧ j < 2 ^ 62) ∧ P (wR 0 j.toNat) S1
instance {ta : TA} {da : TAD} [UpA K F0 ta da] : UpI K F0 (iRng1 ta) (jRng1 da) := ⟨fun r0 h le =>
  UpA.up (t := ta) (td := da) r0 h fun xs S1 F1 H1 vs ⟨j, e, ⟨b1, b2⟩, p⟩ s1 r1 v1 => by
    subst e
    cases v1 with
    | cons a b => cases a; cases b; exact ⟨j, rfl, b1, b2, le _ _ _ _ _ p s1 r1 link_rng⟩⟩
def jRng2 (da : TAD) : TID := fun env S P => da env S fun xs S1 => ∃ i j : Int, xs = [.int i, .int j] ∧ (-(2 ^ 62) ≤ i ∧ i < 2 ^ 62 ∧ -(2 ^ 62) ≤ j ∧ j < 2 ^ 62) ∧ P (wR i (j - i).toNat) S1
instance {ta : TA} {da : TAD} [UpA K F0 ta da] : UpI K F0 (iRng2 ta) (jRng2 da) := ⟨fun r0 h le =>
  UpA.up (t := ta) (td := da) r0 h fun xs S1 F1 H1 vs ⟨i, j, e, b1, p⟩ s1 r1 v1 => by
    subst e
    cases v1 with
    | cons a b =>
      cases b with
      | cons c b => cases a; cases c; cases b; exact ⟨i, j, rfl, b1, le _ _ _ _ _ p s1 r1 link_rng⟩⟩
/-- a new pair -/
theorem pair_new {F F1 : Hp} {S : Sto} {H : Hp} {T : Addr} {x y : V} {d e : D} (r : RelH K F0 F S H) (hT : H T = none) (hx : Vd K F x d) (hy : Vd K F y e) :
    ∃ F', Same F F' ∧ RelH K F0 F' S (upd H T (.tup [x, y])) ∧ Same H (upd H T (.tup [x, y])) ∧ Vd K F' (.ref T) (.tup [d, e]) := by
  obtain ⟨s2, r2⟩ := r.newF (ho := .tup [x, y]) hT
  exact ⟨_, s2, r2, fun b u e => by rw [upd_ne (ne_of_none e hT)]; exact e, .tup upd_same (.cons (hx.mono s2) (.cons (hy.mono s2) .nil))⟩
def wE (x : D) (ds : List D) : WD := ⟨ds.length, fun S => SeqL S x ds, fun i d => ∃ e, ds[i]? = some e ∧ d = .tup [.int (i : Nat), e]⟩
def jEnum (da : TAD) : TID := fun env S P => da env S fun xs S1 => ∃ x ds, xs = [x] ∧ SeqL S1 x ds ∧ P (wE x ds) S1
instance {ta : TA} {da : TAD} [UpA K F0 ta da] : UpI K F0 (iEnum K ta) (jEnum da) := ⟨fun r0 h le =>
  UpA.up (t := ta) (td := da) r0 h fun xs S1 F1 H1 vs ⟨x, ds, e, hs, p⟩ s1 r1 v1 => by
    subst e
    cases v1 with
    | cons hv b =>
      cases b
      obtain ⟨a, xs, e, hq, hl⟩ := hs.at r1 hv
      subst e
      have at_ : ∀ {F S H}, Same F1 F → RelH K F0 F S H → SeqL S x ds → ∃ xs, SqL K H a xs ∧ VdAll K F xs ds := fun s r h => by
        obtain ⟨a', xs, e, hq, hl⟩ := h.at r (hv.mono s)
        cases e
        exact ⟨xs, hq, hl⟩
      refine ⟨a, xs, rfl, hq, le _ _ _ _ _ p s1 r1 ⟨fun i F S H hi s r h => ?_, fun F S H s r h => ?_, fun i F S H y H' hi s r h hy => ?_⟩⟩
      · obtain ⟨xs, hq, hl⟩ := at_ s r h
        have hi' : i < xs.length := by rw [hl.len]; exact hi
        exact ⟨xs, xs[i], hq, by simp [hi']⟩
      · obtain ⟨xs, hq, hl⟩ := at_ s r h
        exact ⟨xs, hq, by rw [hl.len]; exact Nat.le_refl _⟩
      · obtain ⟨xs, hq, hl⟩ := at_ s r h
        obtain ⟨T, w, rfl, hT, rfl, hx⟩ := hy
        obtain ⟨d, h1, h2⟩ := hl.getL (hx xs hq)
        obtain ⟨F', s2, r2, g2, v2⟩ := pair_new (F1 := F) r hT (.int (i : Nat)) h2
        exact ⟨F', _, s2, r2, g2, v2, d, h1, rfl⟩⟩
def wZ (x y : D) (ds es : List D) : WD := ⟨min ds.length es.length, fun S => SeqL S x ds ∧ SeqL S y es, fun i d => ∃ a b, ds[i]? = some a ∧ es[i]? = some b ∧ d = .tup [a, b]⟩
def jZip (da : TAD) : TID := fun env S P => da env S fun xs S1 => ∃ x y ds es, xs = [x, y] ∧ SeqL S1 x ds ∧ SeqL S1 y es ∧ P (wZ x y ds es) S1
instance {ta : TA} {da : TAD} [UpA K F0 ta da] : UpI K F0 (iZip K ta) (jZip da) := ⟨fun r0 h le =>
  UpA.up (t := ta) (td := da) r0 h fun xs S1 F1 H1 vs ⟨x, y, ds, es, e, hs, ht, p⟩ s1 r1 v1 => by
    subst e
    cases v1 with
    | cons hv b =>
      cases b with
      | cons hu b =>
        cases b
        obtain ⟨a, xs, e, hq, hl⟩ := hs.at r1 hv
        obtain ⟨b, ys, e', hq', hl'⟩ := ht.at r1 hu
        subst e; subst e'
        have at_ : ∀ {F S H}, Same F1 F → RelH K F0 F S H → SeqL S x ds → ∃ xs, SqL K H a xs ∧ VdAll K F xs ds := fun s r h => by
          obtain ⟨a', xs, e, hq, hl⟩ := h.at r (hv.mono s)
          cases e
          exact ⟨xs, hq, hl⟩
        have bt_ : ∀ {F S H}, Same F1 F → RelH K F0 F S H → SeqL S y es → ∃ xs, SqL K H b xs ∧ VdAll K F xs es := fun s r h => by
          obtain ⟨a', xs, e, hq, hl⟩ := h.at r (hu.mono s)
          cases e
          exact ⟨xs, hq, hl⟩
        refine ⟨a, b, xs, ys, rfl, hq, hq', le _ _ _ _ _ p s1 r1 ⟨fun i F S H hi s r h => ?_, fun F S H s r h => ?_, fun i F S H z H' hi s r h hz => ?_⟩⟩
        · obtain ⟨xs, hq, hl⟩ := at_ s r h.1
          obtain ⟨ys, hq', hl'⟩ := bt_ s r h.2
          have hi : i < min ds.length es.length := hi
          have h1 : i < xs.length := by rw [hl.len]; omega
          have h2 : i < ys.length := by rw [hl'.len]; omega
          exact ⟨xs, ys, xs[i], ys[i], hq, hq', by simp [h1], by simp [h2]⟩
        · obtain ⟨xs, hq, hl⟩ := at_ s r h.1
          obtain ⟨ys, hq', hl'⟩ := bt_ s r h.2
          refine ⟨xs, ys, hq, hq', ?_⟩
          show xs.length ≤ min ds.length es.length ∨ ys.length ≤ min ds.length es.length
          rw [hl.len, hl'.len]; omega
        · obtain ⟨xs, hq, hl⟩ := at_ s r h.1
          obtain ⟨ys, hq', hl'⟩ := bt_ s r h.2
          obtain ⟨T, w, w', rfl, hT, rfl, hx, hy⟩ := hz
          obtain ⟨d, h1, h2⟩ := hl.getL (hx xs hq)
          obtain ⟨d', h1', h2'⟩ := hl'.getL (hy ys hq')
          obtain ⟨F', s2, r2, g2, v2⟩ := pair_new (F1 := F) r hT h2 h2'
          exact ⟨F', _, s2, r2, g2, v2, d, d', h1, h1', rfl⟩⟩
/-! ### dicts that never change again -/
def wK (kds : List (Key × D)) : WD := ⟨kds.length, fun _ => True, fun i d => ∃ k e, kds[i]? = some (k, e) ∧ d = kD k⟩
theorem KP.at {κ : Type} {F : Hp} : ∀ {kvs : List (κ × V)} {kds : List (κ × D)} {i : Nat} {k : κ} {v : V}, KP K F kvs kds → kvs[i]? = some (k, v) → ∃ d, kds[i]? = some (k, d) ∧ Vd K F v d
  | _, _, _, _, _, .nil, e => by simp at e
  | p :: r, q :: t, 0, k, v, .cons a _, e => by
    simp at e; subst e
    refine ⟨q.2, ?_, a.2⟩
    have : k = q.1 := a.1
    subst this; rfl
  | _, _, i + 1, k, v, .cons _ t, e => by
    obtain ⟨d, h1, h2⟩ := KP.at (i := i) (k := k) (v := v) t (by simpa using e)
    exact ⟨d, by simpa using h1, h2⟩
theorem dK_at {F : Hp} {S : Sto} {H : Hp} {v : V} {kds : List (Key × D)} (r : RelH K F0 F S H) (hv : Vd K F v (.dK kds)) : ∃ a o kvs, v = .ref a ∧ F a = some (.frz o (.dK kvs)) ∧ H a = some (.frz o (.dK kvs)) ∧ KP K F kvs kds := by
  cases hv with
  | dK h1 h2 h3 => exact ⟨_, _, _, rfl, h1, r.fr _ _ h1, .of h2 h3⟩
def jKeys (da : TED) : TID := fun env S P => da env S fun x S1 => ∃ kds, x = .dK kds ∧ P (wK kds) S1
theorem link_keys {F1 : Hp} {a : Addr} {o : Obj} {kvs : List (Key × V)} {kds : List (Key × D)} (h : F1 a = some (.frz o (.dK kvs))) (kp : KP K F1 kvs kds) : WLink K F0 F1 (Itk a o kvs) (wK kds) := by
  have hl := kp.len
  refine ⟨fun i F S H hi s r _ => ⟨r.fr _ _ (s _ _ h), by rw [hl]; exact hi⟩, fun F S H s r _ => ⟨r.fr _ _ (s _ _ h), by rw [hl]; exact Nat.le_refl _⟩, fun i F S H x H' hi s r _ hy => ?_⟩
  obtain ⟨rfl, k, v, e, rfl⟩ := hy
  obtain ⟨d, h1, h2⟩ := kp.at e
  exact ⟨F, kD k, Same.refl _, r, Same.refl _, vd_keyV, k, d, h1, rfl⟩
instance {ta : TE} {da : TED} [UpE K F0 ta da] : UpI K F0 (iKeys ta) (jKeys da) := ⟨fun r0 h le =>
  UpE.up (t := ta) (td := da) r0 h fun x S1 F1 H1 v ⟨kds, hs, p⟩ s1 r1 v1 => by
    subst hs
    obtain ⟨a, o, kvs, e, f1, h1, kp⟩ := dK_at r1 v1
    exact ⟨a, o, e, .inl ⟨kvs, h1, le _ _ _ _ _ p s1 r1 (link_keys f1 kp)⟩⟩⟩
instance {ta : TE} {da : TED} [UpE K F0 ta da] : UpI K F0 (iKeysM ta) (jKeys da) := ⟨fun r0 h le =>
  UpE.up (t := ta) (td := da) r0 h fun x S1 F1 H1 v ⟨kds, hs, p⟩ s1 r1 v1 => by
    subst hs
    obtain ⟨a, o, kvs, e, f1, h1, kp⟩ := dK_at r1 v1
    exact ⟨a, o, kvs, e, h1, le _ _ _ _ _ p s1 r1 (link_keys f1 kp)⟩⟩
def wV (kds : List (Key × D)) : WD := ⟨kds.length, fun _ => True, fun i d => ∃ k, kds[i]? = some (k, d)⟩
def jVals (da : TED) : TID := fun env S P => da env S fun x S1 => ∃ kds, x = .dK kds ∧ P (wV kds) S1
instance {ta : TE} {da : TED} [UpE K F0 ta da] : UpI K F0 (iVals ta) (jVals da) := ⟨fun r0 h le =>
  UpE.up (t := ta) (td := da) r0 h fun x S1 F1 H1 v ⟨kds, hs, p⟩ s1 r1 v1 => by
    subst hs
    obtain ⟨a, o, kvs, e, f1, h1, kp⟩ := dK_at r1 v1
    have hl := kp.len
    refine ⟨a, o, kvs, e, h1, le _ _ _ _ _ p s1 r1 ⟨fun i F S H hi s r _ => ⟨r.fr _ _ (s _ _ f1), by rw [hl]; exact hi⟩, fun F S H s r _ => ⟨r.fr _ _ (s _ _ f1), by rw [hl]; exact Nat.le_refl _⟩, fun i F S H x H' hi s r _ hy => ?_⟩⟩
    obtain ⟨rfl, k, e⟩ := hy
    obtain ⟨d, h1, h2⟩ := kp.at e
    exact ⟨F, d, Same.refl _, r, Same.refl _, h2.mono s, k, h1⟩⟩
def wI (kds : List (Key × D)) : WD := ⟨kds.length, fun _ => True, fun i d => ∃ k e, kds[i]? = some (k, e) ∧ d = .tup [kD k, e]⟩
def jItems (da : TED) : TID := fun env S P => da env S fun x S1 => ∃ kds, x = .dK kds ∧ P (wI kds) S1
instance {ta : TE} {da : TED} [UpE K F0 ta da] : UpI K F0 (iItems ta) (jItems da) := ⟨fun r0 h le =>
  UpE.up (t := ta) (td := da) r0 h fun x S1 F1 H1 v ⟨kds, hs, p⟩ s1 r1 v1 => by
    subst hs
    obtain ⟨a, o, kvs, e, f1, h1, kp⟩ := dK_at r1 v1
    have hl := kp.len
    refine ⟨a, o, kvs, e, h1, le _ _ _ _ _ p s1 r1 ⟨fun i F S H hi s r _ => ⟨r.fr _ _ (s _ _ f1), by rw [hl]; exact hi⟩, fun F S H s r _ => ⟨r.fr _ _ (s _ _ f1), by rw [hl]; exact Nat.le_refl _⟩, fun i F S H x H' hi s r _ hy => ?_⟩⟩
    obtain ⟨T, k, v, e, rfl, hT, rfl⟩ := hy
    obtain ⟨d, h1, h2⟩ := kp.at e
    obtain ⟨F', s2, r2, g2, v2⟩ := pair_new (F1 := F) r hT vd_keyV (h2.mono s)
    exact ⟨F', _, s2, r2, g2, v2, k, d, h1, rfl⟩⟩
def wS (z : Str) : WD := ⟨z.cps.size, fun _ => True, fun i d => ∃ c, z.cps[i]? = some c ∧ d = .str ⟨#[c]⟩⟩
def jStr (da : TED) : TID := fun env S P => da env S fun x S1 => ∃ z, x = .str z ∧ P (wS z) S1
instance {ta : TE} {da : TED} [UpE K F0 ta da] : UpI K F0 (iStr ta) (jStr da) := ⟨fun r0 h le =>
  UpE.up (t := ta) (td := da) r0 h fun x S1 F1 H1 v ⟨z, hs, p⟩ s1 r1 v1 => by
    subst hs; cases v1
    refine ⟨z, rfl, le _ _ _ _ _ p s1 r1 ⟨fun i F S H hi _ _ _ => hi, fun _ _ _ _ _ _ => Nat.le_refl _, fun i F S H x H' hi s r _ hy => ?_⟩⟩
    obtain ⟨rfl, c, h1, rfl⟩ := hy
    exact ⟨F, _, Same.refl _, r, Same.refl _, .str _, c, h1, rfl⟩⟩
/-! ### for -/
/-- a place where a walk stops -/
structure Hold (p : Prop) : Prop where
  ex : p
/-- what a for asks, once what it walks is known -/
structure ForD (w : WD) (gd : TGD) (bd : TSD) (P : EndsD) (env : EnvD) (S1 : Sto) : Prop where
  ex : ∃ I : Nat → EnvD → Sto → Prop, I 0 env S1 ∧ (∀ i env S, i ≤ w.n → I i env S → w.ok S) ∧
    (∀ i d env S, i < w.n → w.item i d → I i env S → gd d env S fun env2 S2 => bd { P with nx := I (i + 1), ct := I (i + 1), bk := P.nx } env2 S2) ∧ ∀ env S, I w.n env S → P.nx env S
def dFor (wd : TID) (gd : TGD) (bd : TSD) : TSD := fun P env S => wd env S fun w S1 => ForD w gd bd P env S1
instance {wi : TI} {wd : TID} {g : TG} {gd : TGD} {tb : TS} {bd : TSD} [UpI K F0 wi wd] [UpG K F0 g gd] [UpS K F0 tb bd] : UpS K F0 (tFor wi g tb) (dFor wd gd bd) := ⟨fun r0 h le =>
  UpI.up (t := wi) (td := wd) r0 h fun w S1 F1 H1 J ⟨⟨I, i0, hok, hs, hd⟩⟩ s1 r1 lk => by
    refine ⟨fun i m σ H => m = w.n - i ∧ i ≤ w.n ∧ ∃ F env S, Same F1 F ∧ Rel K F0 F S env σ H ∧ I i env S, ⟨_, rfl, Nat.zero_le _, F1, _, S1, Same.refl _, r0.at s1 r1, i0⟩, ?_⟩
    rintro i m σ H ⟨rfl, hi, F, env, S, s2, r2, p⟩
    have ok := hok i env S hi p
    by_cases c : i < w.n
    · refine .inr ⟨lk.goes i F S H c s2 r2.h ok, fun σ' H' => ∃ F env S, Same F1 F ∧ Rel K F0 F S env σ' H' ∧ I (i + 1) env S, fun σ' H' q => ⟨w.n - (i + 1), by omega, rfl, c, q⟩, fun x H' hy => ?_⟩
      obtain ⟨F3, d, s3, r3, _, v3, hit⟩ := lk.yields i F S H x H' c s2 r2.h ok hy
      refine UpG.up (t := g) (td := gd) (r2.at s3 r3) v3 (hs i d env S c hit p) fun env4 S4 F4 σ4 H4 h4 s4 r4 => UpS.up (t := tb) (td := bd) r4 h4 ?_
      have s14 := (s2.trans s3).trans s4
      exact ⟨fun env5 S5 F5 σ5 H5 p5 s5 r5 => ⟨F5, env5, S5, s14.trans s5, r5, p5⟩, le.rt.mono (s1.trans s14), le.nx.mono (s1.trans s14), fun env5 S5 F5 σ5 H5 p5 s5 r5 => ⟨F5, env5, S5, s14.trans s5, r5, p5⟩⟩
    · have e : i = w.n := by omega
      subst e
      exact .inl ⟨lk.stops F S H s2 r2.h ok, le.nx _ _ _ _ _ (hd env S p) (s1.trans s2) r2⟩⟩
/-! ### while -/
structure LessD (I : Nat → EnvD → Sto → Prop) (m : Nat) (env : EnvD) (S : Sto) : Prop where
  ex : ∃ m', m' < m ∧ I m' env S
def dWhile (c : TTD) (bd : TSD) : TSD := fun P env S => Hold <| ∃ I : Nat → EnvD → Sto → Prop, (∃ m, I m env S) ∧ ∀ m env S, I m env S → c env S fun b S1 => if b = true then bd { P with nx := LessD I m, ct := LessD I m, bk := P.nx } env S1 else P.nx env S1
instance {c : TT} {cd : TTD} {tb : TS} {bd : TSD} [UpT K F0 c cd] [UpS K F0 tb bd] : UpS K F0 (tWhile c tb) (dWhile cd bd) := ⟨fun {σ0 H0 Q F S env P} r0 ⟨⟨I, ⟨m, i0⟩, hs⟩⟩ le => by
  refine ⟨fun m σ H => ∃ F1 env S, Same F F1 ∧ Rel K F0 F1 S env σ H ∧ I m env S, ⟨m, F, env, S, Same.refl _, r0, i0⟩, ?_⟩
  rintro m σ H ⟨F1, env1, S1, s1, r1, p⟩
  refine UpT.up (t := c) (td := cd) r1 (hs m env1 S1 p) fun b S2 F2 H2 h2 s2 r2 => ?_
  cases b with
  | false => exact le.nx _ _ _ _ _ h2 (s1.trans s2) (r1.at s2 r2)
  | true =>
    have s12 := s1.trans s2
    refine ⟨fun σ' H' => ∃ m', m' < m ∧ ∃ F1 env S, Same F F1 ∧ Rel K F0 F1 S env σ' H' ∧ I m' env S, fun σ' H' ⟨m', l, q⟩ => ⟨m', l, q⟩, UpS.up (t := tb) (td := bd) (r1.at s2 r2) h2 ⟨?_, le.rt.mono s12, le.nx.mono s12, ?_⟩⟩
    · rintro env3 S3 F3 σ3 H3 ⟨m', l, q⟩ s3 r3
      exact ⟨m', l, F3, env3, S3, s12.trans s3, r3, q⟩
    · rintro env3 S3 F3 σ3 H3 ⟨m', l, q⟩ s3 r3
      exact ⟨m', l, F3, env3, S3, s12.trans s3, r3, q⟩⟩
/-! ### list comprehensions -/
/-- a target stores to the slots told alone -/
class GFr (g : TG) (is : outParam (List Nat)) : Prop where
  mono : ∀ {v : V} {σ : L2.St} {H : Hp} {Q Q' : L2.St → Hp → Prop}, (∀ σ' H', Q σ' H' → Q' σ' H') → g v σ H Q → g v σ H Q'
  fr : ∀ {v : V} {σ : L2.St} {H : Hp} {Q : L2.St → Hp → Prop}, g v σ H Q → g v σ H fun σ' H' => Q σ' H' ∧ σ'.length = σ.length ∧ ∀ j, j ∉ is → σ'[j]? = σ[j]?
class GFrs (g : TGs) (is : outParam (List Nat)) : Prop where
  mono : ∀ {v : List V} {σ : L2.St} {H : Hp} {Q Q' : L2.St → Hp → Prop}, (∀ σ' H', Q σ' H' → Q' σ' H') → g v σ H Q → g v σ H Q'
  fr : ∀ {v : List V} {σ : L2.St} {H : Hp} {Q : L2.St → Hp → Prop}, g v σ H Q → g v σ H fun σ' H' => Q σ' H' ∧ σ'.length = σ.length ∧ ∀ j, j ∉ is → σ'[j]? = σ[j]?
instance (i : Nat) : GFr (gName i) [i] := ⟨fun h q => h _ _ q, fun {v σ H Q} q => ⟨q, by rw [List.length_set], fun j hj => by
  rw [List.getElem?_set_ne]
  intro e; exact hj (by rw [e]; exact List.mem_singleton.mpr rfl)⟩⟩
instance : GFrs gNil [] := ⟨fun h q => ⟨q.1, h _ _ q.2⟩, fun q => ⟨q.1, q.2, rfl, fun _ _ => rfl⟩⟩
instance {t : TG} {u : TGs} {is js : List Nat} [GFr t is] [GFrs u js] : GFrs (gCons t u) (is ++ js) := ⟨fun h ⟨v, r, e, q⟩ => ⟨v, r, e, GFr.mono (g := t) (is := is) (fun σ' H' q => GFrs.mono (g := u) (is := js) h q) q⟩,
  fun ⟨v, r, e, q⟩ => ⟨v, r, e, GFr.mono (g := t) (is := is) (fun σ' H' ⟨q, l1, f1⟩ => GFrs.mono (g := u) (is := js) (fun σ2 H2 ⟨q2, l2, f2⟩ => ⟨q2, l2.trans l1, fun j hj => (f2 j fun z => hj (List.mem_append_right _ z)).trans (f1 j fun z => hj (List.mem_append_left _ z))⟩) (GFrs.fr (g := u) (is := js) q)) (GFr.fr (g := t) (is := is) q)⟩⟩
instance {n : Nat} {u : TGs} {is : List Nat} [GFrs u is] : GFr (gTup K n u) is := ⟨fun h ⟨a, xs, e, h1, h2, q⟩ => ⟨a, xs, e, h1, h2, GFrs.mono (g := u) (is := is) h q⟩, fun ⟨a, xs, e, h1, h2, q⟩ => ⟨a, xs, e, h1, h2, GFrs.fr (g := u) (is := is) q⟩⟩
def wipeD (env : EnvD) : List Nat → EnvD
  | [] => env
  | v :: vs => (wipeD env vs).set v none
theorem wipe_rel {F : Hp} {σ : L2.St} {env : EnvD} (h : RelS K F σ env) : ∀ vs, RelS K F (wipe σ vs) (wipeD env vs)
  | [] => h
  | v :: vs => (wipe_rel h vs).unset v none
theorem wipe_get (σ : L2.St) : ∀ (vs : List Nat) (j : Nat), (wipe σ vs)[j]? = if j ∈ vs then (σ[j]?).map (fun _ => none) else σ[j]?
  | [], j => by simp [wipe]
  | v :: vs, j => by
    have ih := wipe_get σ vs j
    have hl := wipe_length σ vs
    show ((wipe σ vs).set v none)[j]? = _
    rw [List.getElem?_set]
    by_cases c : v = j
    · subst c
      rw [if_pos rfl, hl]
      by_cases h : v < σ.length
      · rw [if_pos h]; simp [h]
      · rw [if_neg h]; simp [List.getElem?_eq_none (Nat.le_of_not_lt h)]
    · rw [if_neg c, ih]
      have c' : ¬ j = v := fun e => c e.symm
      simp [c']
theorem wipe_fr {σ σ' : L2.St} {is vs : List Nat} (hs : ∀ i ∈ is, i ∈ vs) (hl : σ'.length = (wipe σ vs).length) (h : ∀ j, j ∉ is → σ'[j]? = (wipe σ vs)[j]?) : wipe σ' vs = wipe σ vs := by
  apply List.ext_getElem?
  intro j
  rw [wipe_get, wipe_get]
  by_cases c : j ∈ vs
  · rw [if_pos c, if_pos c]
    have e1 : σ'.length = σ.length := by rw [hl, wipe_length]
    by_cases h : j < σ.length
    · simp [h, e1]
    · simp [List.getElem?_eq_none (Nat.le_of_not_lt h), List.getElem?_eq_none (show σ'.length ≤ j by omega)]
  · rw [if_neg c, if_neg c, h j fun z => c (hs j z), wipe_get, if_neg c]
def dYes : TTD := fun _ S P => P true S
instance : UpT K F0 tYes dYes := ⟨fun r0 h le => le _ _ _ _ h (Same.refl _) r0.h⟩
class Sub (is vs : List Nat) : Prop where
  sub : ∀ i ∈ is, i ∈ vs
def dLc (wd : TID) (gd : TGD) (ttd : TTD) (ed : TED) (vs : List Nat) : TED := fun env S P => wd env S fun w S1 => ∀ L, S1 L = none → ∃ I : Nat → List D → Sto → Prop, I 0 [] (sup S1 L (.lst [])) ∧
  (∀ i acc S, i ≤ w.n → I i acc S → S L = some (.lst acc) ∧ w.ok S) ∧
  (∀ i d acc S, i < w.n → w.item i d → I i acc S → gd d (wipeD env vs) S fun env2 S2 => ttd env2 S2 fun b S3 => if b = true then ed env2 S3 fun y S4 => S4 L = some (.lst acc) ∧ acc.length < sizeLine ∧ I (i + 1) (acc ++ [y]) (sup S4 L (.lst (acc ++ [y]))) else I (i + 1) acc S3) ∧
  ∀ acc S, I w.n acc S → P (.ref L) S
instance {wi : TI} {wd : TID} {g : TG} {gd : TGD} {tt : TT} {ttd : TTD} {te : TE} {ed : TED} {vs is : List Nat} [UpI K F0 wi wd] [UpG K F0 g gd] [UpT K F0 tt ttd] [UpE K F0 te ed] [GFr g is] [Sub is vs] : UpE K F0 (tLc wi g tt te vs) (dLc wd gd ttd ed vs) := ⟨fun r0 h le =>
  UpI.up (t := wi) (td := wd) r0 h fun w S1 F1 H1 J q s1 r1 lk => fun L hD => by
    obtain ⟨I, i0, hok, hs, hd⟩ := q L (r1.free hD).2
    have rD := r1.new hD (.lst (xs := []) (ds := []) .nil)
    refine ⟨fun i m H => m = w.n - i ∧ i ≤ w.n ∧ ∃ F S acc, Same F1 F ∧ RelH K F0 F S H ∧ I i acc S, ⟨_, rfl, Nat.zero_le _, F1, _, [], Same.refl _, rD, i0⟩, ?_⟩
    rintro i m H ⟨rfl, hi, F, S, acc, s2, r2, p⟩
    obtain ⟨eD, ok⟩ := hok i acc S hi p
    by_cases c : i < w.n
    · refine .inr ⟨lk.goes i F S H c s2 r2 ok, fun H' => ∃ F S acc, Same F1 F ∧ RelH K F0 F S H' ∧ I (i + 1) acc S, fun H' q => ⟨w.n - (i + 1), by omega, rfl, c, q⟩, fun x H' hy => ?_⟩
      obtain ⟨F3, d, s3, r3, _, v3, hit⟩ := lk.yields i F S H x H' c s2 r2 ok hy
      have s03 := s1.trans (s2.trans s3)
      refine GFr.mono (g := g) (is := is) (fun σ' H' ⟨q, l1, f1⟩ => ⟨wipe_fr (is := is) (Sub.sub) l1 f1, q⟩) (GFr.fr (g := g) (is := is) (UpG.up (t := g) (td := gd) (F := F3) (env := wipeD _ vs) ⟨r3, wipe_rel (r0.s.mono s03) vs⟩ v3 (hs i d acc S c hit p) fun env4 S4 F4 σ4 H4 h4 s4 r4 =>
        UpT.up (t := tt) (td := ttd) r4 h4 fun b S5 F5 H5 h5 s5 r5 => ?_))
      cases b with
      | false => exact ⟨F5, S5, acc, ((s2.trans s3).trans s4).trans s5, r5, h5⟩
      | true =>
        refine UpE.up (t := te) (td := ed) (r4.at s5 r5) h5 fun y S6 F6 H6 u ⟨e6, hl, p6⟩ s6 r6 v6 => ?_
        obtain ⟨xs, e7, h7⟩ := r6.lst e6
        exact ⟨xs, e7, by rw [h7.len]; exact hl, F6, _, _, (((s2.trans s3).trans s4).trans s5).trans s6, r6.put e6 (.lst (h7.app (.cons v6 .nil))), p6⟩
    · have e : i = w.n := by omega
      subst e
      exact .inl ⟨lk.stops F S H s2 r2 ok, le _ _ _ _ _ (hd acc S p) (s1.trans s2) r2 (.ref L)⟩⟩
/-! ### a cut -/
def tCut (t u : TS) : TS := fun D σ H => ∃ Mid : L2.St → Hp → Prop, t { D with nx := Mid } σ H ∧ ∀ σ' H', Mid σ' H' → u D σ' H'
structure dCut (t u : TSD) (P : EndsD) (env : EnvD) (S : Sto) : Prop where
  ex : ∃ Mid : EnvD → Sto → Prop, t { P with nx := Mid } env S ∧ ∀ env' S', Mid env' S' → u P env' S'
instance {t u : TS} {td ud : TSD} [UpS K F0 t td] [UpS K F0 u ud] : UpS K F0 (tCut t u) (dCut td ud) := ⟨fun {_ _ _ F _ _ _} r0 h le => by
  obtain ⟨Mid, h1, h2⟩ := h.ex
  refine ⟨fun σ' H' => ∃ F1 env S, Same F F1 ∧ Rel K F0 F1 S env σ' H' ∧ Mid env S, UpS.up (t := t) (td := td) r0 h1 ⟨fun env' S' F' σ' H' p s r => ⟨F', env', S', s, r, p⟩, le.rt, le.bk, le.ct⟩, ?_⟩
  rintro σ' H' ⟨F1, env1, S1, s1, r1, p⟩
  exact UpS.up (t := u) (td := ud) r1 (h2 env1 S1 p) (le.mono s1)⟩
end
theorem cutAt {X : Cx} {st : Stmt} {rest : List Stmt} {t u : TS} (h1 : PS X st t) (h2 : PSs X rest u) : PSs X (st :: rest) (tCut t u) := by
  constructor
  intro pins s σ H D I h
  obtain ⟨Mid, a, b⟩ := h
  apply wpAny_execs_cons
  refine thn (h1.run pins s σ H { D with nx := Mid } I a) ?_
  intro f s1 q
  match f, q with
  | .next, ⟨σ', H', I', m⟩ => exact h2.run pins s1 σ' H' D I' (b σ' H' m)
  | .ret _, q => exact q
  | .brk, q => exact q
  | .cont, q => exact q
end L2.VW

/-! ## built-in functions, operators on data -/
namespace L2.VW
open PySem PySem.Spec PyProof.Rows
section
variable {K : PySem.W.Frag} {F0 : Hp}
/-! ### methods of lists -/
def TyIs (T : String) (S : Sto) (x : D) : Prop := (T = "list" ∧ ∃ ds, SeqL S x ds) ∨ (T = "str" ∧ ∃ z, x = .str z)
theorem TyIs.at {T : String} {F : Hp} {S : Sto} {H : Hp} {v : V} {x : D} (r : RelH K F0 F S H) (hv : Vd K F v x) (h : TyIs T S x) : tyV K T v H := by
  rcases h with ⟨rfl, ds, h⟩ | ⟨rfl, z, rfl⟩
  · obtain ⟨a, xs, rfl, hq, _⟩ := h.at r hv
    exact .inl ⟨rfl, xs, hq⟩
  · cases hv; rfl
def dBM (T : String) (rd : D → List D → Sto → PV → Prop) (da : TED) (dt : TAD) : TED := fun env S P => da env S fun x S1 => TyIs T S1 x ∧ dt env S1 fun xs S2 => rd x xs S2 P
instance {T : String} {r : V → List V → Hp → VK → Prop} {rd : D → List D → Sto → PV → Prop} {to : TE} {da : TED} {t : TA} {dt : TAD} [UpE K F0 to da] [UpA K F0 t dt] [UpM K F0 r rd] : UpE K F0 (tBM K T r to t) (dBM T rd da dt) := ⟨fun r0 h le =>
  UpE.up (t := to) (td := da) r0 h fun x S1 F1 H1 v ⟨ht, h1⟩ s1 r1 v1 => ⟨ht.at r1 v1, UpA.up (t := t) (td := dt) (r0.at s1 r1) h1 fun xs S2 F2 H2 vs h2 s2 r2 v2 => UpM.up (r := r) (rd := rd) r2 (v1.mono s2) v2 h2 (le.mono (s1.trans s2))⟩⟩
def dBM0 (T : String) (rd : D → List D → Sto → PV → Prop) (da : TED) : TED := fun env S P => da env S fun x S1 => TyIs T S1 x ∧ rd x [] S1 P
instance {T : String} {r : V → List V → Hp → VK → Prop} {rd : D → List D → Sto → PV → Prop} {to : TE} {da : TED} [UpE K F0 to da] [UpM K F0 r rd] : UpE K F0 (tBM0 K T r to) (dBM0 T rd da) := ⟨fun r0 h le =>
  UpE.up (t := to) (td := da) r0 h fun x S1 F1 H1 v ⟨ht, h1⟩ s1 r1 v1 => ⟨ht.at r1 v1, UpM.up (r := r) (rd := rd) r1 v1 .nil h1 (le.mono s1)⟩⟩
def dAppend : D → List D → Sto → PV → Prop := fun x vs S P => ∃ a ds y, x = .ref a ∧ vs = [y] ∧ S a = some (.lst ds) ∧ ds.length < sizeLine ∧ P .non (sup S a (.lst (ds ++ [y])))
instance : UpM K F0 rAppend dAppend := ⟨fun r hv hvs ⟨a, ds, y, e1, e2, e3, hl, p⟩ le => by
  subst e1; subst e2; cases hv
  cases hvs with
  | cons hy b =>
    cases b
    obtain ⟨xs, e4, hx⟩ := r.lst e3
    exact ⟨a, xs, _, rfl, rfl, e4, by rw [hx.len]; exact hl, le _ _ _ _ _ p (Same.refl _) (r.put e3 (.lst (hx.app (.cons hy .nil)))) .non⟩⟩
def dExtend : D → List D → Sto → PV → Prop := fun x vs S P => ∃ a ds y es, x = .ref a ∧ vs = [y] ∧ S a = some (.lst ds) ∧ SeqW S y es ∧ ds.length + es.length ≤ sizeLine ∧ P .non (sup S a (.lst (ds ++ es)))
instance : UpM K F0 rExtend dExtend := ⟨fun r hv hvs ⟨a, ds, y, es, e1, e2, e3, hw, hl, p⟩ le => by
  subst e1; subst e2; cases hv
  cases hvs with
  | cons hy b =>
    cases b
    obtain ⟨xs, e4, hx⟩ := r.lst e3
    obtain ⟨b, ys, rfl, e5, hys⟩ := hw.at r hy
    exact ⟨a, b, xs, ys, rfl, rfl, e4, e5, by rw [hx.len, hys.len]; exact hl, le _ _ _ _ _ p (Same.refl _) (r.put e3 (.lst (hx.app hys))) .non⟩⟩
def dPop : D → List D → Sto → PV → Prop := fun x vs S P => ∃ a ds y, x = .ref a ∧ vs = [] ∧ S a = some (.lst ds) ∧ ds[ds.length - 1]? = some y ∧ P y (sup S a (.lst ds.dropLast))
theorem VdAll.dropLast {F : Hp} {xs : List V} {ds : List D} (h : VdAll K F xs ds) : VdAll K F xs.dropLast ds.dropLast := by
  rw [List.dropLast_eq_take, List.dropLast_eq_take, h.len]; exact h.take _
instance : UpM K F0 rPop dPop := ⟨fun r hv hvs ⟨a, ds, y, e1, e2, e3, hl, p⟩ le => by
  subst e1; subst e2; cases hv; cases hvs
  obtain ⟨xs, e4, hx⟩ := r.lst e3
  obtain ⟨w, h1, h2⟩ := hx.get hl
  exact ⟨a, xs, w, rfl, rfl, e4, by rw [hx.len]; exact h1, le _ _ _ _ _ p (Same.refl _) (r.put e3 (.lst hx.dropLast)) h2⟩⟩
def dReverse : D → List D → Sto → PV → Prop := fun x vs S P => ∃ a ds, x = .ref a ∧ vs = [] ∧ S a = some (.lst ds) ∧ P .non (sup S a (.lst ds.reverse))
instance : UpM K F0 rReverse dReverse := ⟨fun r hv hvs ⟨a, ds, e1, e2, e3, p⟩ le => by
  subst e1; subst e2; cases hv; cases hvs
  obtain ⟨xs, e4, hx⟩ := r.lst e3
  exact ⟨a, xs, rfl, rfl, e4, le _ _ _ _ _ p (Same.refl _) (r.put e3 (.lst hx.rev)) .non⟩⟩
def dClear : D → List D → Sto → PV → Prop := fun x vs S P => ∃ a ds, x = .ref a ∧ vs = [] ∧ S a = some (.lst ds) ∧ P .non (sup S a (.lst []))
instance : UpM K F0 rClear dClear := ⟨fun r hv hvs ⟨a, ds, e1, e2, e3, p⟩ le => by
  subst e1; subst e2; cases hv; cases hvs
  obtain ⟨xs, e4, hx⟩ := r.lst e3
  exact ⟨a, xs, rfl, rfl, e4, le _ _ _ _ _ p (Same.refl _) (r.put e3 (.lst .nil)) .non⟩⟩
/-! ### sums of lists, tuples -/
def dCat : R2D := fun x y S P => ∃ ds es, SeqW S x ds ∧ SeqW S y es ∧ ds.length + es.length ≤ sizeLine ∧ ∀ p, S p = none → P (.ref p) (sup S p (.lst (ds ++ es)))
instance : UpR K F0 rCat dCat := ⟨fun r hv hu ⟨ds, es, h1, h2, hl, p⟩ le => by
  obtain ⟨a, xs, rfl, e1, hx⟩ := h1.at r hv
  obtain ⟨b, ys, rfl, e2, hy⟩ := h2.at r hu
  exact ⟨a, b, xs, ys, rfl, rfl, e1, e2, by rw [hx.len, hy.len]; exact hl, fun q hq => le _ _ _ _ _ (p q (r.free hq).2) (Same.refl _) (r.new hq (.lst (hx.app hy))) (.ref q)⟩⟩
def dRep : R2D := fun x y S P => ∃ ds k, SeqW S x ds ∧ y = .int k ∧ (-(2 ^ 63) ≤ k ∧ k < 2 ^ 63) ∧ ds.length * k.toNat ≤ sizeLine ∧ ∀ p, S p = none → P (.ref p) (sup S p (.lst (List.replicate k.toNat ds).flatten))
theorem VdAll.rep {F : Hp} {xs : List V} {ds : List D} (h : VdAll K F xs ds) : ∀ n, VdAll K F (List.replicate n xs).flatten (List.replicate n ds).flatten
  | 0 => .nil
  | n + 1 => by rw [List.replicate_succ, List.replicate_succ, List.flatten_cons, List.flatten_cons]; exact h.app (h.rep n)
instance : UpR K F0 rRep dRep := ⟨fun r hv hu ⟨ds, k, h1, e, ⟨b1, b2⟩, hl, p⟩ le => by
  subst e; cases hu
  obtain ⟨a, xs, rfl, e1, hx⟩ := h1.at r hv
  exact ⟨a, k, xs, rfl, rfl, e1, b1, b2, by rw [hx.len]; exact hl, fun q hq => le _ _ _ _ _ (p q (r.free hq).2) (Same.refl _) (r.new hq (.lst (hx.rep _))) (.ref q)⟩⟩
def dCatA : R2D := fun x y S P => ∃ ds es, x = .tup ds ∧ y = .tup es ∧ ds.length + es.length ≤ sizeLine ∧ P (.tup (ds ++ es)) S
instance : UpR K F0 (rCatA K) dCatA := ⟨fun r hv hu ⟨ds, es, e1, e2, hl, p⟩ le => by
  subst e1; subst e2
  obtain ⟨a, xs, rfl, h1, hx⟩ := tup_at r hv
  obtain ⟨b, ys, rfl, h2, hy⟩ := tup_at r hu
  refine ⟨a, b, xs, ys, rfl, rfl, h1, h2, by rw [hx.len, hy.len]; exact hl, fun e => ?_, fun _ e => ?_, fun _ _ q hq => ?_⟩
  · subst e
    cases hx
    exact le _ _ _ _ _ p (Same.refl _) r hu
  · subst e
    cases hy
    rw [List.append_nil] at p
    exact le _ _ _ _ _ p (Same.refl _) r hv
  · obtain ⟨s2, r2⟩ := r.newF (ho := .tup (xs ++ ys)) hq
    exact le _ _ _ _ _ p s2 r2 (.tup upd_same ((hx.app hy).mono s2))⟩
def dSlA : RSlD := fun x lo hi S P => ∃ ds, x = .tup ds ∧ P (.tup (cutD ds lo hi)) S
theorem cut_all {ds : List D} {lo hi : Option Int} (h : HT.sIx ds.length 0 lo = 0 ∧ HT.sIx ds.length ds.length hi = ds.length) : cutD ds lo hi = ds := by
  unfold cutD
  rw [h.1, h.2]; simp
instance : UpSl K F0 (rSlA K) dSlA := ⟨fun r hv ⟨ds, e0, p⟩ le => by
  subst e0
  obtain ⟨a, xs, rfl, hq, ha⟩ := tup_at r hv
  refine ⟨a, xs, rfl, hq, fun h => ?_, fun _ q hq => ?_⟩
  · rw [ha.len] at h
    rw [cut_all h] at p
    exact le _ _ _ _ _ p (Same.refl _) r hv
  · obtain ⟨s2, r2⟩ := r.newF (ho := .tup (cutV xs _ _)) hq
    exact le _ _ _ _ _ p s2 r2 (.tup upd_same ((ha.cut _ _).mono s2))⟩
/-! ### calls by values -/
def dCB (rd : List D → Sto → PV → Prop) (dt : TAD) : TED := fun env S P => dt env S fun xs S1 => rd xs S1 P
instance {r : List V → Hp → VK → Prop} {rd : List D → Sto → PV → Prop} {t : TA} {dt : TAD} [UpA K F0 t dt] [UpC K F0 r rd] : UpE K F0 (tCB r t) (dCB rd dt) := ⟨fun r0 h le =>
  UpA.up (t := t) (td := dt) r0 h fun xs S1 F1 H1 vs h1 s1 r1 v1 => UpC.up (r := r) (rd := rd) r1 v1 h1 (le.mono s1)⟩
/-- len -/
def rLenA (K : PySem.W.Frag) : List V → Hp → VK → Prop := fun xs H Q => (∃ p ys, xs = [.ref p] ∧ (SqL K H p ys ∨ SqT K H p ys) ∧ Q (.int ys.length) H) ∨ (∃ z, xs = [.str z] ∧ z.length ≤ sizeLine ∧ Q (.int z.length) H) ∨ ∃ a kvs, xs = [.ref a] ∧ Rd H a (.dK kvs) ∧ Q (.int kvs.length) H
def LenS (S : Sto) (x : D) (n : Nat) : Prop := (∃ ds, SeqL S x ds ∧ n = ds.length) ∨ (∃ ds, x = .tup ds ∧ n = ds.length) ∨ (∃ z, x = .str z ∧ z.length ≤ sizeLine ∧ n = z.length) ∨ ∃ kds, DicK S x kds ∧ n = kds.length
def dLen : List D → Sto → PV → Prop := fun xs S P => ∃ x n, xs = [x] ∧ LenS S x n ∧ P (.int (n : Nat)) S
instance : UpC K F0 (rLenA K) dLen := ⟨fun r hv ⟨x, n, e, h, p⟩ le => by
  subst e
  cases hv with
  | cons hv b =>
    cases b
    rcases h with ⟨ds, h, rfl⟩ | ⟨ds, rfl, rfl⟩ | ⟨z, rfl, hz, rfl⟩ | ⟨kds, h, rfl⟩
    · obtain ⟨a, xs, rfl, hq, hx⟩ := h.at r hv
      exact .inl ⟨a, xs, rfl, .inl hq, by rw [hx.len]; exact le _ _ _ _ _ p (Same.refl _) r (.int _)⟩
    · obtain ⟨a, xs, rfl, hq, hx⟩ := tup_at r hv
      exact .inl ⟨a, xs, rfl, .inr hq, by rw [hx.len]; exact le _ _ _ _ _ p (Same.refl _) r (.int _)⟩
    · cases hv
      exact .inr (.inl ⟨z, rfl, hz, le _ _ _ _ _ p (Same.refl _) r (.int _)⟩)
    · obtain ⟨a, kvs, rfl, rd, kp⟩ := h.at r hv
      exact .inr (.inr ⟨a, kvs, rfl, rd, by rw [kp.len]; exact le _ _ _ _ _ p (Same.refl _) r (.int _)⟩)⟩
/-- int(..) of a number or a truth -/
def rInt1 : List V → Hp → VK → Prop := fun xs H Q => (∃ i, xs = [.int i] ∧ Q (.int i) H) ∨ ∃ k, xs = [.bl k] ∧ Q (.int (if k then 1 else 0)) H
inductive IntOf : D → Int → Prop
  | int (i : Int) : IntOf (.int i) i
  | bl (k : Bool) : IntOf (.bl k) (if k then 1 else 0)
def dInt1 : List D → Sto → PV → Prop := fun xs S P => ∃ x i, xs = [x] ∧ IntOf x i ∧ P (.int i) S
instance : UpC K F0 rInt1 dInt1 := ⟨fun r hv ⟨x, i, e, h, p⟩ le => by
  subst e
  cases hv with
  | cons hv b =>
    cases b
    cases h with
    | int i => cases hv; exact .inl ⟨i, rfl, le _ _ _ _ _ p (Same.refl _) r (.int _)⟩
    | bl k => cases hv; exact .inr ⟨k, rfl, le _ _ _ _ _ p (Same.refl _) r (.int _)⟩⟩
def rMin2 : List V → Hp → VK → Prop := fun xs H Q => ∃ i j, xs = [.int i, .int j] ∧ Q (.int (if j < i then j else i)) H
def rMax2 : List V → Hp → VK → Prop := fun xs H Q => ∃ i j, xs = [.int i, .int j] ∧ Q (.int (if j > i then j else i)) H
def dMin2 : List D → Sto → PV → Prop := fun xs S P => ∃ i j, xs = [.int i, .int j] ∧ P (.int (if j < i then j else i)) S
def dMax2 : List D → Sto → PV → Prop := fun xs S P => ∃ i j, xs = [.int i, .int j] ∧ P (.int (if j > i then j else i)) S
instance : UpC K F0 rMin2 dMin2 := ⟨fun r hv ⟨i, j, e, p⟩ le => by
  subst e
  cases hv with
  | cons a b => cases b with | cons c d => cases d; cases a; cases c; exact ⟨i, j, rfl, le _ _ _ _ _ p (Same.refl _) r (.int _)⟩⟩
instance : UpC K F0 rMax2 dMax2 := ⟨fun r hv ⟨i, j, e, p⟩ le => by
  subst e
  cases hv with
  | cons a b => cases b with | cons c d => cases d; cases a; cases c; exact ⟨i, j, rfl, le _ _ _ _ _ p (Same.refl _) r (.int _)⟩⟩
/-- tuple(..), list(..) of a list or a tuple -/
def rTupOf (K : PySem.W.Frag) : List V → Hp → VK → Prop := fun xs H Q => ∃ p ys, xs = [.ref p] ∧ ((SqL K H p ys ∧ ∀ l, H l = none → Q (.ref l) (upd H l (.tup ys))) ∨ (SqT K H p ys ∧ Q (.ref p) H))
def SqS (S : Sto) (x : D) (ds : List D) : Prop := SeqL S x ds ∨ x = .tup ds
def dTupOf : List D → Sto → PV → Prop := fun xs S P => ∃ x ds, xs = [x] ∧ SqS S x ds ∧ P (.tup ds) S
instance : UpC K F0 (rTupOf K) dTupOf := ⟨fun r hv ⟨x, ds, e, h, p⟩ le => by
  subst e
  cases hv with
  | cons hv b =>
    cases b
    rcases h with h | rfl
    · obtain ⟨a, xs, rfl, hq, hx⟩ := h.at r hv
      refine ⟨a, xs, rfl, .inl ⟨hq, fun q hq => ?_⟩⟩
      obtain ⟨s2, r2⟩ := r.newF (ho := .tup xs) hq
      exact le _ _ _ _ _ p s2 r2 (.tup upd_same (hx.mono s2))
    · obtain ⟨a, xs, rfl, hq, hx⟩ := tup_at r hv
      exact ⟨a, xs, rfl, .inr ⟨hq, le _ _ _ _ _ p (Same.refl _) r hv⟩⟩⟩
def rLstOf (K : PySem.W.Frag) : List V → Hp → VK → Prop := fun xs H Q => (∃ p ys, xs = [.ref p] ∧ (SqL K H p ys ∨ SqT K H p ys) ∧ ∀ l, H l = none → Q (.ref l) (upd H l (.lst ys))) ∨ ∃ (a : Addr) (kvs : List (Key × V)), xs = [.ref a] ∧ Rd H a (.dK kvs) ∧ ∀ p, H p = none → Q (.ref p) (upd H p (.lst (kvs.map fun kv => kV kv.1)))
def LstS (S : Sto) (x : D) (ds : List D) : Prop := SeqL S x ds ∨ x = .tup ds ∨ ∃ kds, DicK S x kds ∧ ds = kds.map fun kd => kD kd.1
def dLstOf : List D → Sto → PV → Prop := fun xs S P => ∃ x ds, xs = [x] ∧ LstS S x ds ∧ ∀ p, S p = none → P (.ref p) (sup S p (.lst ds))
theorem vd_keyL {F : Hp} {κ : Type} : ∀ {kvs : List (Key × V)} {kds : List (Key × κ)}, kvs.map (·.1) = kds.map (·.1) → VdAll K F (kvs.map fun kv => kV kv.1) (kds.map fun kd => kD kd.1)
  | [], [], _ => .nil
  | [], _ :: _, e => by cases e
  | _ :: _, [], e => by cases e
  | p :: r, q :: t, e => by
    have e1 := List.cons.inj e
    exact .cons (by show Vd K F (kV p.1) (kD q.1); rw [show p.1 = q.1 from e1.1]; exact vd_keyV) (vd_keyL e1.2)
instance : UpC K F0 (rLstOf K) dLstOf := ⟨fun r hv ⟨x, ds, e, h, p⟩ le => by
  subst e
  cases hv with
  | cons hv b =>
    cases b
    rcases h with h | rfl | ⟨kds, h, rfl⟩
    · obtain ⟨a, xs, rfl, hq, hx⟩ := h.at r hv
      exact .inl ⟨a, xs, rfl, .inl hq, fun q hq => le _ _ _ _ _ (p q (r.free hq).2) (Same.refl _) (r.new hq (.lst hx)) (.ref q)⟩
    · obtain ⟨a, xs, rfl, hq, hx⟩ := tup_at r hv
      exact .inl ⟨a, xs, rfl, .inr hq, fun q hq => le _ _ _ _ _ (p q (r.free hq).2) (Same.refl _) (r.new hq (.lst hx)) (.ref q)⟩
    · obtain ⟨a, kvs, rfl, rd, kp⟩ := h.at r hv
      exact .inr ⟨a, kvs, rfl, rd, fun q hq => le _ _ _ _ _ (p q (r.free hq).2) (Same.refl _) (r.new hq (.lst (vd_keyL kp.keys))) (.ref q)⟩⟩
/-- dict(..) of a dict -/
def rDicOf : List V → Hp → VK → Prop := fun xs H Q => ∃ (a : Addr) (kvs : List (Key × V)), xs = [.ref a] ∧ Rd H a (.dK kvs) ∧ ∀ p, H p = none → Q (.ref p) (upd H p (.dK kvs))
def dDicOf : List D → Sto → PV → Prop := fun xs S P => ∃ x kds, xs = [x] ∧ DicK S x kds ∧ ∀ p, S p = none → P (.ref p) (sup S p (.dK kds))
instance : UpC K F0 rDicOf dDicOf := ⟨fun r hv ⟨x, kds, e, h, p⟩ le => by
  subst e
  cases hv with
  | cons hv b =>
    cases b
    obtain ⟨a, kvs, rfl, rd, kp⟩ := h.at r hv
    exact ⟨a, kvs, rfl, rd, fun q hq => le _ _ _ _ _ (p q (r.free hq).2) (Same.refl _) (r.new hq (.dK kp.keys kp.vals)) (.ref q)⟩⟩
theorem VdAll.bls {F : Hp} : ∀ {vs : List V} {bs : List Bool}, VdAll K F vs (bs.map D.bl) → vs = bs.map V.bl
  | _, [], h => by cases h; rfl
  | _, n :: r, h => by
    cases h with
    | cons a t => cases a; rw [VdAll.bls t]; rfl
def dAll : List D → Sto → PV → Prop := fun xs S P => ∃ (x : D) (bs : List Bool), xs = [x] ∧ SeqL S x (bs.map D.bl) ∧ P (.bl (bs.all id)) S
def dAny : List D → Sto → PV → Prop := fun xs S P => ∃ (x : D) (bs : List Bool), xs = [x] ∧ SeqL S x (bs.map D.bl) ∧ P (.bl (bs.any id)) S
instance : UpC K F0 (rAll K) dAll := ⟨fun r hv ⟨x, bs, e, h, p⟩ le => by
  subst e
  cases hv with
  | cons hv b =>
    cases b
    obtain ⟨a, xs, rfl, hq, hx⟩ := h.at r hv
    rw [hx.bls] at hq
    exact ⟨a, bs, rfl, hq, le _ _ _ _ _ p (Same.refl _) r (.bl _)⟩⟩
instance : UpC K F0 (rAny K) dAny := ⟨fun r hv ⟨x, bs, e, h, p⟩ le => by
  subst e
  cases hv with
  | cons hv b =>
    cases b
    obtain ⟨a, xs, rfl, hq, hx⟩ := h.at r hv
    rw [hx.bls] at hq
    exact ⟨a, bs, rfl, hq, le _ _ _ _ _ p (Same.refl _) r (.bl _)⟩⟩
/-! ### is None; == of data -/
def isNon : D → Bool
  | .non => true
  | _ => false
theorem vd_non {F : Hp} {v : V} {x : D} (h : Vd K F v x) : decide (v = .non) = isNon x := by cases h <;> simp [isNon]
def rIsN : R2 := fun x y H Q => y = .non ∧ Q (.bl (decide (x = .non))) H
def rNotN : R2 := fun x y H Q => y = .non ∧ Q (.bl (!decide (x = .non))) H
def dIsN : R2D := fun x y S P => y = .non ∧ P (.bl (isNon x)) S
def dNotN : R2D := fun x y S P => y = .non ∧ P (.bl (!isNon x)) S
instance : UpR K F0 rIsN dIsN := ⟨fun r hv hu ⟨e, p⟩ le => by
  subst e; cases hu
  exact ⟨rfl, by rw [vd_non hv]; exact le _ _ _ _ _ p (Same.refl _) r (.bl _)⟩⟩
instance : UpR K F0 rNotN dNotN := ⟨fun r hv hu ⟨e, p⟩ le => by
  subst e; cases hu
  exact ⟨rfl, by rw [vd_non hv]; exact le _ _ _ _ _ p (Same.refl _) r (.bl _)⟩⟩
/-- what a value is as data, here -/
def pyS (S : Sto) (x : D) : Option PyData := match x with
  | .ref a => (match S a with
    | some (.lst ds) => (pyAll ds).map .list
    | _ => none)
  | x => py x
theorem pyS.at {F : Hp} {S : Sto} {H : Hp} {v : V} {x : D} {p : PyData} (r : RelH K F0 F S H) (hv : Vd K F v x) (h : pyS S x = some p) : Dp K H v p := by
  have go : ∀ {x : D} {v : V} {p : PyData}, Vd K F v x → py x = some p → Dp K H v p := fun hv h => by
    have := dp_of h hv
    exact (dp_monoS r.fr this)
  cases x with
  | ref a =>
    have h : (match S a with
      | some (.lst ds) => (pyAll ds).map PyData.list
      | _ => none) = some p := h
    cases e : S a with
    | none => rw [e] at h; cases h
    | some o =>
      rw [e] at h
      cases o with
      | lst ds =>
        have h : (pyAll ds).map PyData.list = some p := h
        cases q : pyAll ds with
        | none => rw [q] at h; cases h
        | some ps =>
          rw [q] at h; cases h
          cases hv
          obtain ⟨xs, e1, hx⟩ := r.lst e
          exact .lst (.inl (.inl e1)) (dpAll_monoS r.fr (dpAll_of q hx))
      | _ => cases h
  | _ => exact go hv h
where
  dp_monoS {F H : Hp} (s : Same F H) : ∀ {v : V} {d : PyData}, Dp K F v d → Dp K H v d
    | _, _, .non => .non
    | _, _, .bl b => .bl b
    | _, _, .int i => .int i
    | _, _, .str x => .str x
    | _, _, .lst h a => .lst (s.seq h) (dpAll_monoS s a)
    | _, _, .tup h a => .tup (sqT_mono s h) (dpAll_monoS s a)
  dpAll_monoS {F H : Hp} (s : Same F H) : ∀ {vs : List V} {ds : List PyData}, DpAll K F vs ds → DpAll K H vs ds
    | _, _, .nil => .nil
    | _, _, .cons a t => .cons (dp_monoS s a) (dpAll_monoS s t)
/-! ### a < b < c -/
def dChain (rd rd' : R2D) (da db dc : TED) : TED := fun env S P => da env S fun x S1 => db env S1 fun y S2 => rd x y S2 fun z S3 => ∃ k, z = .bl k ∧ (if k = true then dc env S3 fun w S4 => rd' y w S4 P else P (.bl false) S3)
instance {r r' : R2} {rd rd' : R2D} {ta tb tc : TE} {da db dc : TED} [UpE K F0 ta da] [UpE K F0 tb db] [UpE K F0 tc dc] [UpR K F0 r rd] [UpR K F0 r' rd'] : UpE K F0 (tChain r r' ta tb tc) (dChain rd rd' da db dc) := ⟨fun r0 h le =>
  UpE.up (t := ta) (td := da) r0 h fun x S1 F1 H1 v h1 s1 r1 v1 => UpE.up (t := tb) (td := db) (r0.at s1 r1) h1 fun y S2 F2 H2 u h2 s2 r2 v2 => UpR.up (r := r) (rd := rd) r2 (v1.mono s2) v2 h2 fun z S3 F3 H3 w ⟨k, e, h3⟩ s3 r3 v3 => by
    subst e; cases v3
    refine ⟨k, rfl, ?_⟩
    cases k with
    | false => exact le _ _ _ _ _ h3 ((s1.trans s2).trans s3) r3 (.bl _)
    | true => exact UpE.up (t := tc) (td := dc) (r0.at ((s1.trans s2).trans s3) r3) h3 fun w S4 F4 H4 q h4 s4 r4 v4 => UpR.up (r := r') (rd := rd') r4 ((v2.mono s3).mono s4) v4 h4 (le.mono (((s1.trans s2).trans s3).trans s4))⟩
end
end L2.VW

/-! ## the rules by these readings -/
namespace L2.VW
open PySem PySem.Spec PyProof.Rows
section
variable {X : Cx}
theorem call_lenA : CallR X (.builtin "len") (rLenA X.K) := by
  intro pins s σ H xs us Q I r h
  rcases h with h | h | ⟨a, kvs, rfl, rd, q⟩
  · exact call_len_seq pins s σ H xs us Q I r h
  · exact call_len_str pins s σ H xs us Q I r h
  · obtain ⟨u, rfl, ru⟩ := vals1 r
    cases ru
    exact d_len I rd fun t s' I' => ⟨.int kvs.length, H, I', ⟨t, rfl⟩, q⟩
theorem call_int1A : CallR X (.type "int") rInt1 := call_int1
theorem call_min2A (hc : X.calm = true) : CallR X (.builtin "min") rMin2 := call_min2 hc
theorem call_max2A (hc : X.calm = true) : CallR X (.builtin "max") rMax2 := call_max2 hc
theorem call_tupA : CallR X (.type "tuple") (rTupOf X.K) := call_tuple_of
theorem call_lstA (hc : X.calm = true) : CallR X (.type "list") (rLstOf X.K) := by
  intro pins s σ H xs us Q I r h
  rcases h with h | h
  · exact call_list_of pins s σ H xs us Q I r h
  · exact call_listD hc pins s σ H xs us Q I r h
theorem call_dicA : CallR X (.type "dict") rDicOf := call_dictD
theorem op_isNA : OpR X (compareOp .Is) rIsN := op_isN
theorem op_notNA : OpR X (compareOp .IsNot) rNotN := op_notN
end
end L2.VW

/-! ## ==, in, isinstance, repr, displays -/
namespace L2.VW
open PySem PySem.Spec PyProof.Rows
theorem pass0F {X : Cx} : Passes CX0 X (fun _ _ _ => False) := pass0
section
variable {K : PySem.W.Frag} {F0 : Hp}
instance : XLe K F0 (fun _ _ _ => False) noX := ⟨fun _ _ _ _ _ _ h => h.elim⟩
/-- promises of other forms, lifted -/
class UpSp (K : PySem.W.Frag) (F0 : Hp) (sp : Sp) (E : XK) (spd : outParam (List D → Sto → PV → Prop)) : Prop where
  up : ∀ {vs : List V} {ds : List D} {F : Hp} {S : Sto} {H : Hp} {Q : VK} {P : PV}, RelH K F0 F S H → VdAll K F vs ds → spd ds S P → LeV K F0 F P Q → sp vs H Q E
def dCallS (spd : List D → Sto → PV → Prop) (dvs : List V) (da : TAD) : TED := fun env S P => da env S fun xs S1 => spd (xs ++ dvs.map toD) S1 P
instance (priority := 500) {sp : Sp} {spd : List D → Sto → PV → Prop} {dvs : List V} {E : XK} {ta : TA} {da : TAD} [UpA K F0 ta da] [UpSp K F0 sp E spd] : UpE K F0 (tCall sp dvs E ta) (dCallS spd dvs da) := ⟨fun r0 h le =>
  UpA.up (t := ta) (td := da) r0 h fun xs S1 F1 H1 vs h1 s1 r1 v1 => UpSp.up (sp := sp) (spd := spd) r1 (v1.app (.to dvs)) h1 (le.mono s1)⟩
/-! ### == -/
def eqP : Option PyData → Option PyData → Bool
  | some p, some q => PyData.eqv p q
  | _, _ => false
def okP : Option PyData → Bool
  | some p => p.plain && decide (p.depth ≤ 60)
  | none => false
theorem okP_some {p : PyData} (h : okP (some p) = true) : p.plain = true ∧ p.depth ≤ 60 := by
  have h : (p.plain && decide (p.depth ≤ 60)) = true := h
  rw [Bool.and_eq_true] at h
  exact ⟨h.1, of_decide_eq_true h.2⟩
def rEqPl (K : PySem.W.Frag) : R2 := fun x y H Q => ∃ d e, Dp K H x d ∧ Dp K H y e ∧ d.plain = true ∧ e.plain = true ∧ d.depth ≤ 60 ∧ Q (.bl (PyData.eqv d e)) H
def rNePl (K : PySem.W.Frag) : R2 := fun x y H Q => ∃ d e, Dp K H x d ∧ Dp K H y e ∧ d.plain = true ∧ e.plain = true ∧ d.depth ≤ 60 ∧ Q (.bl (!PyData.eqv d e)) H
theorem op_eqPl {X : Cx} (hu : X.A.units + 64 < cLine) : OpR X (compareOp .Eq) (rEqPl X.K) := by
  intro pins s σ H x y v u Q I rx ry h
  obtain ⟨d, e, hd, he, sd, se, dd, q⟩ := h
  obtain ⟨as, r1⟩ := Dp.reads I d x v hd rx
  obtain ⟨bs, r2⟩ := Dp.reads I e y u he ry
  exact SeqAt.eq_plain r1 r2 sd se (by have := Nat.min_le_left d.depth e.depth; omega) ⟨.bl _, H, I, rfl, q⟩
theorem op_nePl {X : Cx} (hu : X.A.units + 64 < cLine) : OpR X (compareOp .NotEq) (rNePl X.K) := by
  intro pins s σ H x y v u Q I rx ry h
  obtain ⟨d, e, hd, he, sd, se, dd, q⟩ := h
  obtain ⟨as, r1⟩ := Dp.reads I d x v hd rx
  obtain ⟨bs, r2⟩ := Dp.reads I e y u he ry
  exact SeqAt.ne_plain r1 r2 sd se (by have := Nat.min_le_left d.depth e.depth; omega) ⟨.bl _, H, I, rfl, q⟩
def dEqD : R2D := fun x y S P => okP (pyS S x) = true ∧ okP (pyS S y) = true ∧ P (.bl (eqP (pyS S x) (pyS S y))) S
def dNeD : R2D := fun x y S P => okP (pyS S x) = true ∧ okP (pyS S y) = true ∧ P (.bl (!eqP (pyS S x) (pyS S y))) S
instance : UpR K F0 (rEqPl K) dEqD := ⟨fun {v u x y H Q F S P} r hv hu ⟨h1, h2, p⟩ le => by
  cases e1 : pyS S x with
  | none => rw [e1] at h1; cases h1
  | some d =>
    cases e2 : pyS S y with
    | none => rw [e2] at h2; cases h2
    | some e =>
      rw [e1] at h1 p; rw [e2] at h2 p
      exact ⟨d, e, pyS.at r hv e1, pyS.at r hu e2, (okP_some h1).1, (okP_some h2).1, (okP_some h1).2, le _ _ _ _ _ p (Same.refl _) r (.bl _)⟩⟩
instance : UpR K F0 (rNePl K) dNeD := ⟨fun {v u x y H Q F S P} r hv hu ⟨h1, h2, p⟩ le => by
  cases e1 : pyS S x with
  | none => rw [e1] at h1; cases h1
  | some d =>
    cases e2 : pyS S y with
    | none => rw [e2] at h2; cases h2
    | some e =>
      rw [e1] at h1 p; rw [e2] at h2 p
      exact ⟨d, e, pyS.at r hv e1, pyS.at r hu e2, (okP_some h1).1, (okP_some h2).1, (okP_some h1).2, le _ _ _ _ _ p (Same.refl _) r (.bl _)⟩⟩
/-- scalars of one kind -/
inductive EqS : D → D → Bool → Prop
  | int (i j : Int) : EqS (.int i) (.int j) (decide (i = j))
  | str (i j : Str) : EqS (.str i) (.str j) (decide (i = j))
  | bl (i j : Bool) : EqS (.bl i) (.bl j) (decide (i = j))
def dEqS : R2D := fun x y S P => ∃ r, EqS x y r ∧ P (.bl r) S
def dNeS : R2D := fun x y S P => ∃ r, EqS x y r ∧ P (.bl (!r)) S
instance : UpR K F0 rEq dEqS := ⟨fun r hv hu ⟨b, h, p⟩ le => by
  cases h with
  | int i j =>
    cases hv; cases hu
    have e : decide (V.int i = V.int j) = decide (i = j) := by simp
    exact ⟨rfl, by rw [e]; exact le _ _ _ _ _ p (Same.refl _) r (.bl _)⟩
  | str i j =>
    cases hv; cases hu
    have e : decide (V.str i = V.str j) = decide (i = j) := by simp
    exact ⟨rfl, by rw [e]; exact le _ _ _ _ _ p (Same.refl _) r (.bl _)⟩
  | bl i j =>
    cases hv; cases hu
    have e : decide (V.bl i = V.bl j) = decide (i = j) := by simp
    exact ⟨rfl, by rw [e]; exact le _ _ _ _ _ p (Same.refl _) r (.bl _)⟩⟩
instance : UpR K F0 rNe dNeS := ⟨fun r hv hu ⟨b, h, p⟩ le => by
  cases h with
  | int i j =>
    cases hv; cases hu
    have e : decide (V.int i = V.int j) = decide (i = j) := by simp
    exact ⟨rfl, by rw [e]; exact le _ _ _ _ _ p (Same.refl _) r (.bl _)⟩
  | str i j =>
    cases hv; cases hu
    have e : decide (V.str i = V.str j) = decide (i = j) := by simp
    exact ⟨rfl, by rw [e]; exact le _ _ _ _ _ p (Same.refl _) r (.bl _)⟩
  | bl i j =>
    cases hv; cases hu
    have e : decide (V.bl i = V.bl j) = decide (i = j) := by simp
    exact ⟨rfl, by rw [e]; exact le _ _ _ _ _ p (Same.refl _) r (.bl _)⟩⟩
/-! ### in -/
def flatD : D → Bool
  | .non => true
  | .bl _ => true
  | .int _ => true
  | .str _ => true
  | _ => false
def eqF : D → D → Bool
  | .non, .non => true
  | .bl a, .bl b => a == b
  | .bl a, .int b => (if a then 1 else 0) == b
  | .int a, .bl b => a == (if b then 1 else 0)
  | .int a, .int b => a == b
  | .str a, .str b => a == b
  | _, _ => false
theorem flat_of {F : Hp} {v : V} {x : D} (h : Vd K F v x) (f : flatD x = true) : flatV v = true := by cases h <;> first | rfl | cases f
theorem eqF_of {F : Hp} {v u : V} {x y : D} (h : Vd K F v x) (g : Vd K F u y) (f : flatD x = true) (f' : flatD y = true) : eqV v u = eqF x y := by
  cases h <;> cases g <;> first | rfl | cases f | cases f'
def inD (x : D) (ds : List D) : Bool := ds.any fun y => eqF y x
theorem inD_of {F : Hp} {v : V} {x : D} (hv : Vd K F v x) (f : flatD x = true) : ∀ {xs : List V} {ds : List D}, VdAll K F xs ds → ds.all flatD = true → inV v xs = inD x ds ∧ xs.all flatV = true
  | _, _, .nil, _ => ⟨rfl, rfl⟩
  | _, _, .cons (d := d) a t, h => by
    have h' := h
    rw [List.all_cons, Bool.and_eq_true] at h'
    obtain ⟨i1, i2⟩ := inD_of hv f t h'.2
    refine ⟨?_, ?_⟩
    · unfold inV inD at i1 ⊢
      rw [List.any_cons, List.any_cons, eqF_of a hv h'.1 f, i1]
    · rw [List.all_cons, flat_of a h'.1, i2]; rfl
def dIn (neg : Bool) : R2D := fun x y S P => ∃ ds, SqS S y ds ∧ flatD x = true ∧ ds.all flatD = true ∧ P (.bl (if neg then !inD x ds else inD x ds)) S
instance (neg : Bool) : UpR K F0 (rIn K neg) (dIn neg) := ⟨fun r hv hu ⟨ds, hs, f, fa, p⟩ le => by
  rcases hs with hs | rfl
  · obtain ⟨a, xs, rfl, hq, hx⟩ := hs.at r hu
    obtain ⟨i1, i2⟩ := inD_of hv f hx fa
    exact ⟨a, xs, rfl, .inl hq, flat_of hv f, i2, by rw [i1]; exact le _ _ _ _ _ p (Same.refl _) r (.bl _)⟩
  · obtain ⟨a, xs, rfl, hq, hx⟩ := tup_at r hu
    obtain ⟨i1, i2⟩ := inD_of hv f hx fa
    exact ⟨a, xs, rfl, .inr hq, flat_of hv f, i2, by rw [i1]; exact le _ _ _ _ _ p (Same.refl _) r (.bl _)⟩⟩
theorem inD_str (z : Str) (ws : List Str) : inD (.str z) (ws.map D.str) = decide (z ∈ ws) := by
  unfold inD
  rw [Bool.eq_iff_iff, decide_eq_true_iff, List.any_eq_true]
  constructor
  · rintro ⟨y, hy, e⟩
    obtain ⟨a, ha, rfl⟩ := List.mem_map.mp hy
    have e : (a == z) = true := e
    rw [← eq_of_beq e]; exact ha
  · intro h
    exact ⟨.str z, List.mem_map_of_mem h, beq_self_eq_true z⟩
theorem inD_int (z : Int) (ws : List Int) : inD (.int z) (ws.map D.int) = decide (z ∈ ws) := by
  unfold inD
  rw [Bool.eq_iff_iff, decide_eq_true_iff, List.any_eq_true]
  constructor
  · rintro ⟨y, hy, e⟩
    obtain ⟨a, ha, rfl⟩ := List.mem_map.mp hy
    have e : (a == z) = true := e
    rw [← eq_of_beq e]; exact ha
  · intro h
    exact ⟨.int z, List.mem_map_of_mem h, beq_self_eq_true z⟩
/-! ### isinstance, a built-in class -/
def tyH : Option HD → String
  | some (.lst _) => "list"
  | some (.dK _) => "dict"
  | _ => "?"
def tyN (S : Sto) : D → String
  | .non => "NoneType"
  | .bl _ => "bool"
  | .int _ => "int"
  | .str _ => "str"
  | .lst _ => "list"
  | .seq _ => "list"
  | .tup _ => "tuple"
  | .dK _ => "dict"
  | .ref a => tyH (S a)
  | _ => "?"
def isT (T t : String) : Bool := t == T || (T == "int" && t == "bool")
def okTy (t : String) : Bool := t == "NoneType" || t == "bool" || t == "int" || t == "str" || t == "list" || t == "tuple" || t == "dict"
def okTn (T : String) : Bool := T == "int" || T == "bool" || T == "tuple" || T == "str" || T == "dict" || T == "list"
def rIsT (K : PySem.W.Frag) : List V → Hp → VK → Prop := fun xs H Q => ∃ (x : V) (T t : String), xs = [x, .ty T] ∧ okTn T = true ∧ okTy t = true ∧ TyX K H x (.type t) ∧ Q (.bl (isT T t)) H
def dIsT : List D → Sto → PV → Prop := fun xs S P => ∃ (x : D) (T : String), xs = [x, .ty T] ∧ okTn T = true ∧ okTy (tyN S x) = true ∧ P (.bl (isT T (tyN S x))) S
theorem tyX_seq {H : Hp} {a : Addr} {xs : List V} (h : SqL K H a xs) : TyX K H (.ref a) (.type "list") := by
  rcases h with (e | ⟨o, e⟩) | ⟨o, _, _, e, c, _⟩
  · exact .base (.lst e)
  · exact .base (.frz e)
  · exact .kList e c
theorem tyX_D {F : Hp} {S : Sto} {H : Hp} {v : V} {x : D} (r : RelH K F0 F S H) (hv : Vd K F v x) (h : okTy (tyN S x) = true) : TyX K H v (.type (tyN S x)) := by
  cases hv with
  | non => exact .base .non
  | bl b => exact .base (.bl b)
  | int b => exact .base (.int b)
  | str b => exact .base (.str b)
  | lst h1 _ => exact .base (.lst (r.fr _ _ h1))
  | seq h1 _ => exact tyX_seq (r.fr.seq h1)
  | tup h1 _ => exact .base (.tup (r.fr _ _ h1))
  | dK h1 _ _ => exact .fDict (r.fr _ _ h1)
  | ref a =>
    have h : okTy (tyH (S a)) = true := h
    show TyX K H (.ref a) (.type (tyH (S a)))
    cases e : S a with
    | none => rw [e] at h; exact absurd h (by decide)
    | some o =>
      rw [e] at h
      cases o with
      | lst ds => obtain ⟨xs, e1, _⟩ := r.lst e; exact .base (.lst e1)
      | dK ds => obtain ⟨xs, e1, _⟩ := r.dK e; exact .base (.dK e1)
      | dT ds => exact absurd (show okTy "?" = true from h) (by decide)
      | ins C ds => exact absurd (show okTy "?" = true from h) (by decide)
  | _ => exact absurd (show okTy "?" = true from h) (by decide)
instance : UpC K F0 (rIsT K) dIsT := ⟨fun {vs xs H Q F S P} r hv ⟨x, T, e, hT, ht, p⟩ le => by
  subst e
  cases hv with
  | cons hv b =>
    cases b with
    | cons hu b =>
      cases b; cases hu
      exact ⟨_, T, _, rfl, hT, ht, tyX_D r hv ht, le _ _ _ _ _ p (Same.refl _) r (.bl _)⟩⟩
/-! ### repr -/
def rReprP (K : PySem.W.Frag) : List V → Hp → VK → Prop := fun xs H Q => ∃ (x : V) (d : PyData), xs = [x] ∧ Dp K H x d ∧ d.showable = true ∧ d.hasDict = false ∧ d.depth ≤ 60 ∧ d.shown.length ≤ 16000000 ∧ Q (.str d.shown) H
def dRepr : List D → Sto → PV → Prop := fun xs S P => ∃ (x : D) (d : PyData), xs = [x] ∧ pyS S x = some d ∧ d.showable = true ∧ d.hasDict = false ∧ d.depth ≤ 60 ∧ d.shown.length ≤ 16000000 ∧ P (.str d.shown) S
instance : UpC K F0 (rReprP K) dRepr := ⟨fun r hv ⟨x, d, e, hd, h1, h2, h3, h4, p⟩ le => by
  subst e
  cases hv with
  | cons hv b => cases b; exact ⟨_, d, rfl, pyS.at r hv hd, h1, h2, h3, h4, le _ _ _ _ _ p (Same.refl _) r (.str _)⟩⟩
/-! ### displays of dicts -/
class UpPs (K : PySem.W.Frag) (F0 : Hp) (trs : List (TE × TE)) (dp : outParam (EnvD → Sto → (List (D × D) → Sto → Prop) → Prop)) : Prop where
  up : ∀ {σ : L2.St} {H : Hp} {Q : List (V × V) → Hp → Prop} {F : Hp} {S : Sto} {env : EnvD} {P : List (D × D) → Sto → Prop}, Rel K F0 F S env σ H → dp env S P →
    (∀ ps S' F' H' vs, P ps S' → Same F F' → RelH K F0 F' S' H' → Paired (fun p q => Vd K F' p.1 q.1 ∧ Vd K F' p.2 q.2) vs ps → Q vs H') → tPairs trs σ H Q
instance : UpPs K F0 [] (fun _ S P => P [] S) := ⟨fun r0 h le => le _ _ _ _ _ h (Same.refl _) r0.h .nil⟩
instance {tk tv : TE} {dk dv : TED} {trs : List (TE × TE)} {dp : EnvD → Sto → (List (D × D) → Sto → Prop) → Prop} [UpE K F0 tk dk] [UpE K F0 tv dv] [UpPs K F0 trs dp] :
    UpPs K F0 ((tk, tv) :: trs) (fun env S P => dk env S fun x S1 => dv env S1 fun y S2 => dp env S2 fun ps S3 => P ((x, y) :: ps) S3) := ⟨fun r0 h le =>
  UpE.up (t := tk) (td := dk) r0 h fun x S1 F1 H1 v h1 s1 r1 v1 => UpE.up (t := tv) (td := dv) (r0.at s1 r1) h1 fun y S2 F2 H2 u h2 s2 r2 v2 => UpPs.up (trs := trs) (dp := dp) (r0.at (s1.trans s2) r2) h2 fun ps S3 F3 H3 vs h3 s3 r3 v3 =>
    le _ _ _ _ _ h3 ((s1.trans s2).trans s3) r3 (.cons ⟨(v1.mono s2).mono s3, v2.mono s3⟩ v3)⟩
def mergeD (kds more : List (Key × D)) : List (Key × D) := more.foldl (fun acc kd => putD acc kd.1 kd.2) kds
theorem KP.merge {F : Hp} : ∀ {more : List (Key × V)} {mored : List (Key × D)} {kvs : List (Key × V)} {kds : List (Key × D)}, KP K F kvs kds → KP K F more mored → KP K F (mergeK kvs more) (mergeD kds mored)
  | _, _, _, _, h, .nil => h
  | p :: r, q :: t, kvs, kds, h, .cons a b => by
    have h1 : KP K F (putK kvs p.1 p.2) (putD kds q.1 q.2) := by rw [a.1]; exact h.put a.2
    show KP K F (mergeK (putK kvs p.1 p.2) r) (mergeD (putD kds q.1 q.2) t)
    exact KP.merge h1 b
def dDisp (dp : EnvD → Sto → (List (D × D) → Sto → Prop) → Prop) : TED := fun env S P => ∀ p, S p = none → dp env (sup S p (.dK [])) fun ps S2 => S2 p = some (.dK []) ∧ ∃ kds : List (Key × D), ps = kds.map (fun kd => (kD kd.1, kd.2)) ∧ kds.length ≤ 15 ∧ P (.ref p) (sup S2 p (.dK (mergeD [] kds)))
theorem kp_of_pairs {F : Hp} : ∀ {vs : List (V × V)} {kds : List (Key × D)}, Paired (fun p q => Vd K F p.1 q.1 ∧ Vd K F p.2 q.2) vs (kds.map fun kd => (kD kd.1, kd.2)) → ∃ kvs : List (Key × V), vs = kvs.map (fun kv => (kV kv.1, kv.2)) ∧ KP K F kvs kds
  | _, [], .nil => ⟨[], rfl, .nil⟩
  | p :: r, q :: t, .cons a b => by
    obtain ⟨kvs, e, k⟩ := kp_of_pairs b
    refine ⟨(q.1, p.2) :: kvs, ?_, .cons ⟨rfl, a.2⟩ k⟩
    rw [List.map_cons, ← e]
    have : p.1 = kV q.1 := vd_key a.1
    rw [← this]
instance {trs : List (TE × TE)} {dp : EnvD → Sto → (List (D × D) → Sto → Prop) → Prop} [UpPs K F0 trs dp] : UpE K F0 (tDisp trs) (dDisp dp) := ⟨fun r0 h le => fun p hp => by
  have r1 := r0.h.new hp (.dK (kvs := []) (kds := []) rfl .nil)
  refine UpPs.up (trs := trs) (dp := dp) (r0.at (Same.refl _) r1) (h p (r0.h.free hp).2) fun ps S2 F2 H2 vs ⟨e2, kds, e3, hl, p2⟩ s2 r2 v2 => ?_
  subst e3
  obtain ⟨kvs0, e4, e5, e6⟩ := r2.dK e2
  have e7 : kvs0 = [] := by cases kvs0 with
    | nil => rfl
    | cons _ _ => cases e5
  subst e7
  obtain ⟨kvs, rfl, kp⟩ := kp_of_pairs v2
  have km := KP.merge (kvs := []) (kds := []) (.nil : KP K F2 [] []) kp
  exact ⟨e4, kvs, rfl, by rw [kp.len]; exact hl, le _ _ _ _ _ p2 s2 (r2.put e2 (.dK km.keys km.vals)) (.ref p)⟩⟩
/-! ### a, *b = t -/
def kStar (n k : Nat) (u : TGsD) : TGD := fun x env S P => ∃ ds, x = .tup ds ∧ n ≤ ds.length + 1 ∧ ∀ p, S p = none → u (ds.take k ++ [.ref p] ++ ds.drop (ds.length - (n - 1 - k))) env (sup S p (.lst ((ds.drop k).take (ds.length - (n - 1))))) P
end
end L2.VW

/-! ## more rules by these readings -/
namespace L2.VW
open PySem PySem.Spec PyProof.Rows
theorem isT_int {t : String} : isT "int" t = (t == "int" || t == "bool") := by simp [isT]
theorem kit_isT {K : PySem.W.Frag} {T t : String} (h : okTn T = true) (ht : okTy t = true) : PySem.W.kitOne K (.type t) (.type T) = some (isT T t) := by
  have c : T = "int" ∨ T = "bool" ∨ T = "tuple" ∨ T = "str" ∨ T = "dict" ∨ T = "list" := by
    unfold okTn at h
    simpa [or_assoc] using h
  have c2 : t = "NoneType" ∨ t = "bool" ∨ t = "int" ∨ t = "str" ∨ t = "list" ∨ t = "tuple" ∨ t = "dict" := by
    unfold okTy at ht
    simpa [or_assoc] using ht
  rcases c with rfl | rfl | rfl | rfl | rfl | rfl <;> rcases c2 with rfl | rfl | rfl | rfl | rfl | rfl | rfl <;> exact kit_ty (by decide +kernel)
section
variable {X : Cx}
theorem call_isA : CallR X (.builtin "isinstance") (rIsT X.K) := by
  intro pins s σ H xs us Q I r h
  obtain ⟨x, T, t, rfl, hT, ht, ty, q⟩ := h
  exact call_isi pins s σ H _ us Q I r ⟨x, .ty T, _, _, _, rfl, .ty T, ty, kit_isT hT ht, q⟩
theorem call_reprA (hgd : X.A.guards = some []) (hu : X.A.units + 64 < cLine) : CallR X (.builtin "repr") (rReprP X.K) := by
  intro pins s σ H xs us Q I r h
  obtain ⟨x, d, rfl, hd, hs, hn, hdp, hz, q⟩ := h
  obtain ⟨u, rfl, rx⟩ := vals1 r
  have hsz : d.shown.length ≤ sizeLine := Nat.le_trans hz (by rw [sizeLine_eq]; decide)
  cases hd with
  | non =>
    obtain rfl : u = Value.none := rx
    exact PySem.P.repr_of_none ⟨.str _, H, I.tok _, ⟨_, rfl⟩, q⟩
  | bl b =>
    obtain rfl : u = Value.bool b := rx
    exact PySem.P.repr_of_bool ⟨.str _, H, I.tok _, ⟨_, rfl⟩, q⟩
  | int i =>
    obtain ⟨t, rfl⟩ := rx
    exact PySem.P.repr_of_int (by simpa [PyData.showable] using hs) ⟨.str _, H, I.tok _, ⟨_, rfl⟩, q⟩
  | str z =>
    obtain ⟨t, rfl⟩ := rx
    exact PySem.P.repr_of_str (hsz := hsz) ⟨.str _, H, I.tok _, ⟨_, rfl⟩, q⟩
  | lst h1 h2 =>
    rename_i a ys es
    obtain rfl : u = Value.ref a := rx
    obtain ⟨as, rd⟩ := Dp.reads I _ _ _ (Dp.lst h1 h2) (show RelV (V.ref a) (Value.ref a) from rfl)
    refine repr_of_reads' rd hs (fun e => by rw [hn] at e; cases e) hgd (by omega) (fun _ _ e => e) (fun h' u' tk hk => ?_) hsz
    exact ⟨.str _, H, I.kept (t' := tk) hk, ⟨_, rfl⟩, q⟩
  | tup h1 h2 =>
    rename_i a ys es
    obtain rfl : u = Value.ref a := rx
    obtain ⟨as, rd⟩ := Dp.reads I _ _ _ (Dp.tup h1 h2) (show RelV (V.ref a) (Value.ref a) from rfl)
    refine repr_of_reads' rd hs (fun e => by rw [hn] at e; cases e) hgd (by omega) (fun _ _ e => e) (fun h' u' tk hk => ?_) hsz
    exact ⟨.str _, H, I.kept (t' := tk) hk, ⟨_, rfl⟩, q⟩
/-- name = [..] on one line, data -/
theorem ps_setLcK {i : Nat} {y : Str} {py : Pos} {elt tg iter : Expr} {ifs : List Expr} {scope : Scope} {own : List (Str × Nat)} {pos spos : Pos} {wi : TI} {g : TG} {tt : TT} {te : TE} (hc : X.calm = true) (hN : X.N.Nodup) (hy : X.N[i]? = some y) (hyl : X.env.scope.names.lookup y = some .local)
    (hsw : swapsWith (.ListComp elt [⟨tg, iter, ifs, 0⟩] scope pos) (some (.Name y py)) spos.line X.env = pure true) (hi : PI X tg iter wi) (ok : BlkOk X.N X.env.scope scope own)
    (hg : ∀ (s : Shared) (H : Hp) (C : Addr) (cl : List (Str × Addr)) (fp : List Addr), PG (X.blk s H scope (compEnvC scope cl C X.env) fp) tg g) (ht : ∀ (s : Shared) (H : Hp) (C : Addr) (cl : List (Str × Addr)) (fp : List Addr), PTs (X.blk s H scope (compEnvC scope cl C X.env) fp) ifs tt)
    (he : ∀ (s : Shared) (H : Hp) (C : Addr) (cl : List (Str × Addr)) (fp : List Addr), PE (X.blk s H scope (compEnvC scope cl C X.env) fp) elt te) (hs : ∀ x, foldedSetIterable iter X.env x = pure x := by intro _; rfl) :
    PS X (.Assign [.Name y py] (.ListComp elt [⟨tg, iter, ifs, 0⟩] scope pos) spos) (tAsg (tKp (tLc wi g tt te (own.map (·.2)))) (gName i)) := ps_setLc hc hN hy hyl hsw hi ok hg ht he hs
end
end L2.VW

/-! ## new lists that never change: data from the start -/
namespace L2.VW
open PySem PySem.Spec PyProof.Rows
section
variable {K : PySem.W.Frag} {F0 : Hp}
def dLstD (da : TAD) : TED := fun env S P => da env S fun xs S1 => xs.length ≤ sizeLine ∧ P (.lst xs) S1
instance (priority := 2000) {ta : TA} {da : TAD} [UpA K F0 ta da] : UpE K F0 (tKp (tLst ta)) (dLstD da) := ⟨fun r0 h le => by
  show tLst ta _ _ _
  exact UpA.up (t := ta) (td := da) r0 h fun xs S1 F1 H1 vs ⟨h0, h1⟩ s1 r1 v1 => ⟨by rw [v1.len]; exact h0, fun p hp => by
    obtain ⟨s2, r2⟩ := r1.newF (ho := .lst vs) hp
    exact le _ _ _ _ _ h1 (s1.trans s2) r2 (.lst upd_same (v1.mono s2))⟩⟩
def dSlLD : RSlD := fun x lo hi S P => ∃ ds, SeqL S x ds ∧ P (.lst (cutD ds lo hi)) S
instance (priority := 2000) {te : TE} {de : TED} {tl th : TO} {dl dh : TOD} [UpE K F0 te de] [UpO K F0 tl dl] [UpO K F0 th dh] : UpE K F0 (tKp (tSl (rSlL K) te tl th)) (dSl dSlLD de dl dh) := ⟨fun r0 h le => by
  show tSl (rSlL K) te tl th _ _ _
  exact UpE.up (t := te) (td := de) r0 h fun x S1 F1 H1 v h1 s1 r1 v1 => UpO.up (t := tl) (td := dl) (r0.at s1 r1) h1 fun l S2 F2 H2 h2 s2 r2 => UpO.up (t := th) (td := dh) (r0.at (s1.trans s2) r2) h2 fun u S3 F3 H3 ⟨ds, hs, p⟩ s3 r3 => by
    obtain ⟨a, xs, e, hq, ha⟩ := hs.at r3 ((v1.mono s2).mono s3)
    refine ⟨a, xs, e, hq, fun q hq => ?_⟩
    obtain ⟨s4, r4⟩ := r3.newF (ho := .lst (cutV xs l u)) hq
    exact le _ _ _ _ _ p (((s1.trans s2).trans s3).trans s4) r4 (.lst upd_same ((ha.cut _ _).mono s4))⟩
def dCatD : R2D := fun x y S P => ∃ ds es, SeqW S x ds ∧ SeqW S y es ∧ ds.length + es.length ≤ sizeLine ∧ P (.lst (ds ++ es)) S
instance (priority := 2000) {ta tb : TE} {da db : TED} [UpE K F0 ta da] [UpE K F0 tb db] : UpE K F0 (tKp (tOp rCat ta tb)) (dOp dCatD da db) := ⟨fun r0 h le => by
  show tOp rCat ta tb _ _ _
  exact UpE.up (t := ta) (td := da) r0 h fun x S1 F1 H1 v h1 s1 r1 v1 => UpE.up (t := tb) (td := db) (r0.at s1 r1) h1 fun y S2 F2 H2 u ⟨ds, es, g1, g2, hl, p⟩ s2 r2 v2 => by
    obtain ⟨a, xs, rfl, e1, hx⟩ := g1.at r2 (v1.mono s2)
    obtain ⟨b, ys, rfl, e2, hy⟩ := g2.at r2 v2
    refine ⟨a, b, xs, ys, rfl, rfl, e1, e2, by rw [hx.len, hy.len]; exact hl, fun q hq => ?_⟩
    obtain ⟨s3, r3⟩ := r2.newF (ho := .lst (xs ++ ys)) hq
    exact le _ _ _ _ _ p ((s1.trans s2).trans s3) r3 (.lst upd_same ((hx.app hy).mono s3))⟩
def dRepD : R2D := fun x y S P => ∃ ds k, SeqW S x ds ∧ y = .int k ∧ (-(2 ^ 63) ≤ k ∧ k < 2 ^ 63) ∧ ds.length * k.toNat ≤ sizeLine ∧ P (.lst (List.replicate k.toNat ds).flatten) S
instance (priority := 2000) {ta tb : TE} {da db : TED} [UpE K F0 ta da] [UpE K F0 tb db] : UpE K F0 (tKp (tOp rRep ta tb)) (dOp dRepD da db) := ⟨fun r0 h le => by
  show tOp rRep ta tb _ _ _
  exact UpE.up (t := ta) (td := da) r0 h fun x S1 F1 H1 v h1 s1 r1 v1 => UpE.up (t := tb) (td := db) (r0.at s1 r1) h1 fun y S2 F2 H2 u ⟨ds, k, g1, e, ⟨b1, b2⟩, hl, p⟩ s2 r2 v2 => by
    subst e; cases v2
    obtain ⟨a, xs, rfl, e1, hx⟩ := g1.at r2 (v1.mono s2)
    refine ⟨a, k, xs, rfl, rfl, e1, b1, b2, by rw [hx.len]; exact hl, fun q hq => ?_⟩
    obtain ⟨s3, r3⟩ := r2.newF (ho := .lst (List.replicate k.toNat xs).flatten) hq
    exact le _ _ _ _ _ p ((s1.trans s2).trans s3) r3 (.lst upd_same ((hx.rep _).mono s3))⟩
def dLstOfD : List D → Sto → PV → Prop := fun xs S P => ∃ x ds, xs = [x] ∧ LstS S x ds ∧ P (.lst ds) S
instance (priority := 2000) {ta : TA} {da : TAD} [UpA K F0 ta da] : UpE K F0 (tKp (tCB (rLstOf K) ta)) (dCB dLstOfD da) := ⟨fun r0 h le => by
  show tCB (rLstOf K) ta _ _ _
  exact UpA.up (t := ta) (td := da) r0 h fun xs S1 F1 H1 vs ⟨x, ds, e, h, p⟩ s1 r1 v1 => by
    subst e
    cases v1 with
    | cons hv b =>
      cases b
      rcases h with h | rfl | ⟨kds, h, rfl⟩
      · obtain ⟨a, xs, rfl, hq, hx⟩ := h.at r1 hv
        refine .inl ⟨a, xs, rfl, .inl hq, fun q hq => ?_⟩
        obtain ⟨s4, r4⟩ := r1.newF (ho := .lst xs) hq
        exact le _ _ _ _ _ p (s1.trans s4) r4 (.lst upd_same (hx.mono s4))
      · obtain ⟨a, xs, rfl, hq, hx⟩ := tup_at r1 hv
        refine .inl ⟨a, xs, rfl, .inr hq, fun q hq => ?_⟩
        obtain ⟨s4, r4⟩ := r1.newF (ho := .lst xs) hq
        exact le _ _ _ _ _ p (s1.trans s4) r4 (.lst upd_same (hx.mono s4))
      · obtain ⟨a, kvs, rfl, rd, kp⟩ := h.at r1 hv
        refine .inr ⟨a, kvs, rfl, rd, fun q hq => ?_⟩
        obtain ⟨s4, r4⟩ := r1.newF (ho := .lst (kvs.map fun kv => kV kv.1)) hq
        exact le _ _ _ _ _ p (s1.trans s4) r4 (.lst upd_same ((vd_keyL kp.keys).mono s4))⟩
/-- what a comprehension asks, once what it walks is known -/
structure LcD (w : WD) (gd : TGD) (ttd : TTD) (ed : TED) (vs : List Nat) (env : EnvD) (P : PV) (S1 : Sto) : Prop where
  ex : ∀ L, S1 L = none → ∃ I : Nat → List D → Sto → Prop, I 0 [] (sup S1 L (.lst [])) ∧
    (∀ i acc S, i ≤ w.n → I i acc S → S L = some (.lst acc) ∧ w.ok S) ∧
    (∀ i d acc S, i < w.n → w.item i d → I i acc S → gd d (wipeD env vs) S fun env2 S2 => ttd env2 S2 fun b S3 => if b = true then ed env2 S3 fun y S4 => S4 L = some (.lst acc) ∧ acc.length < sizeLine ∧ I (i + 1) (acc ++ [y]) (sup S4 L (.lst (acc ++ [y]))) else I (i + 1) acc S3) ∧
    ∀ acc S, I w.n acc S → P (.lst acc) (sdel S L)
def dLcD (wd : TID) (gd : TGD) (ttd : TTD) (ed : TED) (vs : List Nat) : TED := fun env S P => wd env S fun w S1 => LcD w gd ttd ed vs env P S1
instance (priority := 2000) {wi : TI} {wd : TID} {g : TG} {gd : TGD} {tt : TT} {ttd : TTD} {te : TE} {ed : TED} {vs is : List Nat} [UpI K F0 wi wd] [UpG K F0 g gd] [UpT K F0 tt ttd] [UpE K F0 te ed] [GFr g is] [Sub is vs] : UpE K F0 (tKp (tLc wi g tt te vs)) (dLcD wd gd ttd ed vs) := ⟨fun {σ H Q F S env P} r0 h le => by
  show tLc wi g tt te vs _ _ _
  refine UpI.up (t := wi) (td := wd) r0 h fun w S1 F1 H1 J q s1 r1 lk => fun L hL => ?_
  obtain ⟨I, i0, hok, hs, hd⟩ := q.ex L (r1.free hL).2
  have rD := r1.new hL (.lst (xs := []) (ds := []) .nil)
  refine ⟨fun i m H => m = w.n - i ∧ i ≤ w.n ∧ ∃ F S acc, Same F1 F ∧ RelH K F0 F S H ∧ I i acc S, ⟨_, rfl, Nat.zero_le _, F1, _, [], Same.refl _, rD, i0⟩, ?_⟩
  rintro i m H ⟨rfl, hi, F, S, acc, s2, r2, p⟩
  obtain ⟨eD, ok⟩ := hok i acc S hi p
  by_cases c : i < w.n
  · refine .inr ⟨lk.goes i F S H c s2 r2 ok, fun H' => ∃ F S acc, Same F1 F ∧ RelH K F0 F S H' ∧ I (i + 1) acc S, fun H' q => ⟨w.n - (i + 1), by omega, rfl, c, q⟩, fun x H' hy => ?_⟩
    obtain ⟨F3, d, s3, r3, _, v3, hit⟩ := lk.yields i F S H x H' c s2 r2 ok hy
    have s03 := s1.trans (s2.trans s3)
    refine GFr.mono (g := g) (is := is) (fun σ' H' ⟨q, l1, f1⟩ => ⟨wipe_fr (is := is) (Sub.sub) l1 f1, q⟩) (GFr.fr (g := g) (is := is) (UpG.up (t := g) (td := gd) (F := F3) (env := wipeD env vs) ⟨r3, wipe_rel (r0.s.mono s03) vs⟩ v3 (hs i d acc S c hit p) fun env4 S4 F4 σ4 H4 h4 s4 r4 =>
      UpT.up (t := tt) (td := ttd) r4 h4 fun b S5 F5 H5 h5 s5 r5 => ?_))
    cases b with
    | false => exact ⟨F5, S5, acc, ((s2.trans s3).trans s4).trans s5, r5, h5⟩
    | true =>
      refine UpE.up (t := te) (td := ed) (r4.at s5 r5) h5 fun y S6 F6 H6 u ⟨e6, hl, p6⟩ s6 r6 v6 => ?_
      obtain ⟨xs, e7, h7⟩ := r6.lst e6
      exact ⟨xs, e7, by rw [h7.len]; exact hl, F6, _, _, (((s2.trans s3).trans s4).trans s5).trans s6, r6.put e6 (.lst (h7.app (.cons v6 .nil))), p6⟩
  · have e : i = w.n := by omega
    subst e
    obtain ⟨xs, e2, h2⟩ := r2.lst eD
    obtain ⟨s3, r3⟩ := r2.keep eD e2
    exact .inl ⟨lk.stops F S H s2 r2 ok, le _ _ _ _ _ (hd acc S p) ((s1.trans s2).trans s3) r3 (.lst upd_same (h2.mono s3))⟩⟩
/-- a comprehension that leaves all as it was: f tells what is made of each item -/
theorem lcD_pure {w : WD} {gd : TGD} {ttd : TTD} {ed : TED} {vs : List Nat} {env : EnvD} {S1 : Sto} {P : PV} (xs : List D) (f : D → Option D) (hn : w.n = xs.length) (hi : ∀ i d, w.item i d → xs[i]? = some d) (hl : xs.length < sizeLine)
    (hok : ∀ L acc, S1 L = none → w.ok (sup S1 L (.lst acc)))
    (ht : ∀ (d : D) (S : Sto) (Zy : D → Sto → Prop) (Zn : Sto → Prop), d ∈ xs → (∀ a o, S1 a = some o → S a = some o) → (∀ y, f d = some y → Zy y S) → (f d = none → Zn S) →
      gd d (wipeD env vs) S fun env2 S2 => ttd env2 S2 fun b S3 => if b = true then ed env2 S3 Zy else Zn S3)
    (hp : P (.lst (xs.filterMap f)) S1) :
    LcD w gd ttd ed vs env P S1 := ⟨fun L hL => by
  refine ⟨fun i acc S => acc = (xs.take i).filterMap f ∧ S = sup S1 L (.lst acc), ⟨rfl, rfl⟩, fun i acc S _ ⟨_, e⟩ => ?_, fun i d acc S hlt hit ⟨e1, e2⟩ => ?_, fun acc S ⟨e1, e2⟩ => ?_⟩
  · subst e
    exact ⟨sup_same, hok L _ hL⟩
  · have hx := hi i d hit
    have ht1 : xs.take (i + 1) = xs.take i ++ [d] := by rw [List.take_add_one, hx]; rfl
    have hal : acc.length < sizeLine := by
      rw [e1]
      refine Nat.lt_of_le_of_lt (List.length_filterMap_le _ _) ?_
      rw [List.length_take]; omega
    refine ht d S _ _ (List.mem_of_getElem? hx) (fun a o e => by rw [e2, sup_ne (sne_of e hL)]; exact e) (fun y hy => ?_) (fun hy => ?_)
    · subst e2
      refine ⟨sup_same, hal, ?_, by rw [sup_sup]⟩
      rw [ht1, List.filterMap_append, ← e1, List.filterMap_cons, hy]; rfl
    · refine ⟨?_, e2⟩
      rw [ht1, List.filterMap_append, ← e1, List.filterMap_cons, hy]
      simp
  · subst e2
    rw [sdel_sup hL, e1, hn, List.take_length]
    exact hp⟩
end
/-! ### pools: lists of two numbers from which is drawn -/
def PoolS (S : Sto) (q : Addr) : Prop := ∃ c s : Int, S q = some (.lst [.int c, .int s]) ∧ 0 ≤ c ∧ 0 ≤ s ∧ s < 2147483648
/-- all as it was but the pool at q, which is one -/
def Drawn (S : Sto) (q : Addr) (S' : Sto) : Prop := ∃ c s : Int, S' = sup S q (.lst [.int c, .int s]) ∧ 0 ≤ c ∧ 0 ≤ s ∧ s < 2147483648
section
variable {S S' S'' S2 : Sto} {q b L : Addr} {o : HD}
theorem Drawn.pool (d : Drawn S q S') : PoolS S' q := by
  obtain ⟨c, s, rfl, h⟩ := d
  exact ⟨c, s, sup_same, h⟩
theorem Drawn.trans (d : Drawn S q S') (e : Drawn S' q S'') : Drawn S q S'' := by
  obtain ⟨c, s, rfl, h⟩ := d
  obtain ⟨c', s', rfl, h'⟩ := e
  exact ⟨c', s', sup_sup, h'⟩
theorem Drawn.at (d : Drawn S q S') (h : S b = some o) (n : b ≠ q) : S' b = some o := by
  obtain ⟨c, s, rfl, _⟩ := d
  rw [sup_ne n]; exact h
theorem Drawn.gone (d : Drawn S q S') (h : S b = none) (n : b ≠ q) : S' b = none := by
  obtain ⟨c, s, rfl, _⟩ := d
  rw [sup_ne n]; exact h
theorem Drawn.back (d : Drawn S q S') (h : S' b = none) (hq : PoolS S q) : S b = none := by
  obtain ⟨c, s, rfl, _⟩ := d
  by_cases e : b = q
  · rw [e, sup_same] at h; cases h
  · rw [sup_ne e] at h; exact h
theorem Drawn.refl (h : PoolS S q) : Drawn S q S := by
  obtain ⟨c, s, e, h⟩ := h
  exact ⟨c, s, (sup_self e).symm, h⟩
theorem PoolS.ne (h : PoolS S q) (e : S b = none) : b ≠ q := fun z => by
  obtain ⟨_, _, h, _⟩ := h
  rw [← z, e] at h; cases h
theorem sup_comm {u : HD} (n : b ≠ q) : sup (sup S b o) q u = sup (sup S q u) b o := by
  funext x; unfold sup
  by_cases h1 : x = q
  · by_cases h2 : x = b
    · exact absurd (h2.symm.trans h1) n
    · rw [if_pos h1, if_neg h2, if_pos h1]
  · by_cases h2 : x = b
    · rw [if_neg h1, if_pos h2, if_pos h2]
    · rw [if_neg h1, if_neg h2, if_neg h2, if_neg h1]
theorem Drawn.under (d : Drawn (sup S L o) q S2) (n : L ≠ q) : ∃ S', S2 = sup S' L o ∧ Drawn S q S' := by
  obtain ⟨c, s, rfl, h⟩ := d
  exact ⟨sup S q (.lst [.int c, .int s]), sup_comm n, c, s, rfl, h⟩
theorem PoolS.over (h : PoolS S q) (n : L ≠ q) : PoolS (sup S L o) q := by
  obtain ⟨c, s, e, h⟩ := h
  exact ⟨c, s, by rw [sup_ne n.symm]; exact e, h⟩
theorem PoolS.new (h : PoolS S q) (e : S L = none) : PoolS (sup S L o) q := h.over (h.ne e)
end
/-- a comprehension whose turns draw from the pool at q -/
theorem lcD_drawn {w : WD} {gd : TGD} {ttd : TTD} {ed : TED} {vs : List Nat} {env : EnvD} {S1 : Sto} {P : PV} {q : Addr} (xs : List D) (Inv : Nat → List D → Prop) (hn : w.n = xs.length) (hi : ∀ i d, w.item i d → xs[i]? = some d) (hq : PoolS S1 q)
    (hok : ∀ L acc S, S1 L = none → (∀ a o, S1 a = some o → a ≠ q → S a = some o) → w.ok (sup S L (.lst acc))) (h0 : Inv 0 []) (hl : ∀ i acc, Inv i acc → acc.length < sizeLine)
    (ht : ∀ (i : Nat) (d : D) (acc : List D) (S : Sto) (Zy : D → Sto → Prop) (Zn : Sto → Prop), xs[i]? = some d → Inv i acc → PoolS S q → (∀ a o, S1 a = some o → a ≠ q → S a = some o) →
      (∀ y S', Drawn S q S' → Inv (i + 1) (acc ++ [y]) → Zy y S') → (∀ S', Drawn S q S' → Inv (i + 1) acc → Zn S') →
      gd d (wipeD env vs) S fun env2 S2 => ttd env2 S2 fun b S3 => if b = true then ed env2 S3 Zy else Zn S3)
    (hp : ∀ acc S', Inv xs.length acc → Drawn S1 q S' → P (.lst acc) S') :
    LcD w gd ttd ed vs env P S1 := ⟨fun L hL => by
  have nL := hq.ne hL
  refine ⟨fun i acc S => Inv i acc ∧ ∃ S', S = sup S' L (.lst acc) ∧ Drawn S1 q S', ⟨h0, S1, rfl, .refl hq⟩, fun i acc S _ ⟨_, S', e, d⟩ => ?_, fun i x acc S hlt hit ⟨iv, S', e, d⟩ => ?_, fun acc S ⟨iv, S', e, d⟩ => ?_⟩
  · subst e
    exact ⟨sup_same, hok L _ _ hL fun a o e n => d.at e n⟩
  · subst e
    refine ht i x acc _ _ _ (hi i x hit) iv (d.pool.over nL) (fun a o e n => by rw [sup_ne (sne_of e hL)]; exact d.at e n) (fun y S2 d2 iv2 => ?_) (fun S2 d2 iv2 => ?_)
    · obtain ⟨S3, rfl, d3⟩ := d2.under nL
      exact ⟨sup_same, hl i acc iv, iv2, S3, by rw [sup_sup], d.trans d3⟩
    · obtain ⟨S3, rfl, d3⟩ := d2.under nL
      exact ⟨iv2, S3, rfl, d.trans d3⟩
  · subst e
    rw [sdel_sup (d.gone hL nL)]
    rw [hn] at iv
    exact hp acc S' iv d⟩
/-! ### which slots a target stores to, by instances -/
class Mem (i : Nat) (vs : List Nat) : Prop where
  mem : i ∈ vs
instance {i : Nat} {vs : List Nat} : Mem i (i :: vs) := ⟨List.mem_cons_self⟩
instance {i j : Nat} {vs : List Nat} [h : Mem i vs] : Mem i (j :: vs) := ⟨List.mem_cons_of_mem _ h.mem⟩
instance {vs : List Nat} : Sub [] vs := ⟨fun _ h => absurd h List.not_mem_nil⟩
instance {i : Nat} {is vs : List Nat} [h : Mem i vs] [t : Sub is vs] : Sub (i :: is) vs := ⟨fun j hj => by
  rcases List.mem_cons.mp hj with rfl | hj
  · exact h.mem
  · exact t.sub j hj⟩
instance {is js vs : List Nat} [h : Sub is vs] [t : Sub js vs] : Sub (is ++ js) vs := ⟨fun j hj => by
  rcases List.mem_append.mp hj with hj | hj
  · exact h.sub j hj
  · exact t.sub j hj⟩
end L2.VW

/-! ## errors: raised, let out, taken -/
namespace L2
open PySem PySem.Spec PyProof.Rows
/-- an own class of errors with one field, with two: its starter -/
def spErr (C : Addr) (f : Str) : Sp := fun vs H Q _ => ∃ (a : Addr) (v : V), vs = [.ref a, v] ∧ H a = some (exo a C none) ∧ ∀ dx, H dx = none → dx ≠ a → Q .non (upd (upd H dx (exd dx [(f, v)])) a (exo a C (some dx)))
def spErr2 (C : Addr) (f g : Str) : Sp := fun vs H Q _ => ∃ (a : Addr) (v z : V), vs = [.ref a, v, z] ∧ H a = some (exo a C none) ∧ ∀ dx, H dx = none → dx ≠ a → Q .non (upd (upd (upd H dx (exd dx [(f, v)])) a (exo a C (some dx))) dx (exd dx [(g, z), (f, v)]))
theorem err_end {H : Hp} {a d : Addr} {o1 o2 o3 o : HO} (ha : H a = none) (n : d ≠ a) : upd (del (upd (upd (upd H a o1) d o2) a o3) a) d o = upd H d o := by
  funext b
  unfold upd del
  by_cases e : b = d
  · subst e; simp
  · by_cases e2 : b = a
    · subst e2; simp [e, ha]
    · simp [e, e2]
theorem err_end2 {H : Hp} {a d : Addr} {o1 o2 o3 o4 o : HO} (ha : H a = none) (n : d ≠ a) : upd (del (upd (upd (upd (upd H a o1) d o2) a o3) d o4) a) d o = upd H d o := by
  funext b
  unfold upd del
  by_cases e : b = d
  · subst e; simp
  · by_cases e2 : b = a
    · subst e2; simp [e, ha]
    · simp [e, e2]
end L2
namespace L2.VW
open PySem PySem.Spec PyProof.Rows
/-- what is wanted of an error, with the slots -/
abbrev WXD := Addr → Option (List (Str × D)) → EnvD → Sto → Prop
structure WB (K : PySem.W.Frag) (F0 : Hp) (WD : WXD) where
  W : WX
  le : ∀ C ods env S F' σ H od, WD C ods env S → Same F0 F' → Rel K F0 F' S env σ H → XdAt K F' H od ods → W (.ref C) od σ H
/-- an error's dict, known from here on -/
structure XB (K : PySem.W.Frag) (F0 : Hp) (ods : Option (List (Str × D))) where
  od : Option Addr
  at_ : XdAt K F0 F0 od ods
theorem XdAt.mono {K : PySem.W.Frag} {F F' H H' : Hp} {od : Option Addr} {ods : Option (List (Str × D))} (s : Same F F') (t : Same H H') (h : XdAt K F H od ods) : XdAt K F' H' od ods := by
  cases h with
  | none => exact .none
  | some h1 h2 h3 => exact .some (t _ _ h1) h2 (h3.mono s)
/-! ### raise -/
def tRaise (C : Addr) (sp : Sp) (dvs : List V) (ta : TA) (W : WX) : TS := fun _ σ H => tMkO C sp dvs ta σ H fun cls d H' => W cls d σ H'
def tRaiseP (C : Addr) (W : WX) : TS := fun _ σ H => W (.ref C) none σ H
theorem ps_raiseV {X : Cx} {W : WX} {e : Expr} {C : Addr} {sp : Sp} {dvs : List V} {ta : TA} {pos : Pos} (hc : X.calm = true) (tk : Takes X W) (he : PMk X e (tMkO C sp dvs ta)) : PS X (.Raise (some e) none pos) (tRaise C sp dvs ta W) := ps_raise hc tk he
theorem ps_raisePV {X : Cx} {W : WX} {e : Expr} {C : Addr} {pos : Pos} (hc : X.calm = true) (tk : Takes X W) (he : PMk X e (fun _ H Q => Q (.ref C) none H)) : PS X (.Raise (some e) none pos) (tRaiseP C W) := ps_raise hc tk he
section
variable {K : PySem.W.Frag} {F0 : Hp}
/-- the entry's own wish, with the slots -/
class WLe (K : PySem.W.Frag) (F0 : Hp) (W : WX) (WD : outParam WXD) : Prop where
  le : ∀ C ods env S F' σ H od, WD C ods env S → Same F0 F' → Rel K F0 F' S env σ H → XdAt K F' H od ods → W (.ref C) od σ H
instance {E : XK} {PE : XD} [x : XLe K F0 E PE] : WLe K F0 (fun cls d _ H => E cls d H) (fun C ods _ S => PE C ods S) := ⟨fun C ods _ S F' _ H od p s r h => x.le C ods S F' H od p s r.h h⟩
instance {WD : WXD} {b : WB K F0 WD} : WLe K F0 b.W WD := ⟨b.le⟩
def dRaiseP (C : Addr) (WD : WXD) : TSD := fun _ env S => WD C none env S
instance {C : Addr} {W : WX} {WD : WXD} [x : WLe K F0 W WD] : UpS K F0 (tRaiseP C W) (dRaiseP C WD) := ⟨fun r0 h _ => x.le _ _ _ _ _ _ _ _ h r0.h.s0 r0 .none⟩
def dRaise1 (C : Addr) (f : Str) (WD : WXD) (da : TAD) : TSD := fun _ env S => da env S fun xs S1 => ∃ x, xs = [x] ∧ WD C (some [(f, x)]) env S1
theorem RelH.xd {F : Hp} {S : Sto} {H : Hp} {d : Addr} {fs : List (Str × V)} (r : RelH K F0 F S H) (h : H d = none) : RelH K F0 F S (upd H d (.xd fs)) :=
  r.grow fun b u e => by rw [upd_ne (ne_of_none e h)]; exact e
instance {C : Addr} {f : Str} {W : WX} {WD : WXD} {ta : TA} {da : TAD} [UpA K F0 ta da] [x : WLe K F0 W WD] : UpS K F0 (tRaise C (spErr C f) [] ta W) (dRaise1 C f WD da) := ⟨fun r0 h _ =>
  UpA.up (t := ta) (td := da) r0 h fun xs S1 F1 H1 vs ⟨x1, e, p⟩ s1 r1 v1 => by
    subst e
    obtain ⟨v, rfl, hv⟩ : ∃ v, vs = [v] ∧ Vd K F1 v x1 := by cases v1 with | cons hv b => cases b; exact ⟨_, rfl, hv⟩
    refine ⟨by simp, fun a ha => ⟨a, v, rfl, upd_same, fun dx hd ne => ⟨rfl, dx, [(f, v)], upd_same, ?_, ?_, ?_⟩⟩⟩
    · rw [upd_ne ne]; exact upd_same
    · rw [upd_ne ne] at hd; exact hd
    · rw [err_end ha ne]
      rw [upd_ne ne] at hd
      exact x.le _ _ _ _ F1 _ _ _ p r1.s0 (r0.at s1 (r1.xd hd)) (.some upd_same rfl (.cons hv .nil))⟩
def dRaise2 (C : Addr) (f g : Str) (WD : WXD) (da : TAD) : TSD := fun _ env S => da env S fun xs S1 => ∃ x y, xs = [x, y] ∧ WD C (some [(g, y), (f, x)]) env S1
instance {C : Addr} {f g : Str} {W : WX} {WD : WXD} {ta : TA} {da : TAD} [UpA K F0 ta da] [x : WLe K F0 W WD] : UpS K F0 (tRaise C (spErr2 C f g) [] ta W) (dRaise2 C f g WD da) := ⟨fun r0 h _ =>
  UpA.up (t := ta) (td := da) r0 h fun xs S1 F1 H1 vs ⟨x1, x2, e, p⟩ s1 r1 v1 => by
    subst e
    obtain ⟨v, z, rfl, hv, hw⟩ : ∃ v z, vs = [v, z] ∧ Vd K F1 v x1 ∧ Vd K F1 z x2 := by cases v1 with | cons hv b => cases b with | cons hw b => cases b; exact ⟨_, _, rfl, hv, hw⟩
    refine ⟨by simp, fun a ha => ⟨a, v, z, rfl, upd_same, fun dx hd ne => ⟨rfl, dx, [(g, z), (f, v)], ?_, upd_same, ?_, ?_⟩⟩⟩
    · rw [upd_ne (Ne.symm ne)]; exact upd_same
    · rw [upd_ne ne] at hd; exact hd
    · rw [err_end2 ha ne]
      rw [upd_ne ne] at hd
      exact x.le _ _ _ _ F1 _ _ _ p r1.s0 (r0.at s1 (r1.xd hd)) (.some upd_same rfl (.cons hw (.cons hv .nil)))⟩
/-! ### a call in a try's body -/
def tMethW (C : Addr) (m : Str) (sp : Sp) (dvs : List V) (W : WX) (ta : TE) (t : TA) : TE := MX.tMethE C m sp dvs (WE W) ta t
def dMethW (K : PySem.W.Frag) (C : Addr) (m : Str) (spd : SpD) (dvs : List V) (WD : WXD) (da : TED) (dt : TAD) : TED := fun env S P => da env S fun x S1 => ∃ ds, Ins S1 x C ds ∧ ds.lookup m = none ∧ dt env S1 fun xs S2 => spd (x :: (xs ++ dvs.map toD)) S2 P fun C ods S3 => WD C ods env S3
theorem upSp.atW {sp : SpD} {vs : List V} {ds : List D} {F F1 : Hp} {S S1 : Sto} {σ : L2.St} {env : EnvD} {H H1 : Hp} {Q : VK} {W : WX} {WD : WXD} {P : PV} [x : WLe K F0 W WD] (r0 : Rel K F0 F S env σ H) (s1 : Same F F1) (r : RelH K F0 F1 S1 H1) (hv : VdAll K F1 vs ds) (h : sp ds S1 P fun C ods S3 => WD C ods env S3) (le : LeV K F0 F1 P Q) : upSp K sp vs H1 Q (WE W σ) :=
  ⟨F1, S1, ds, P, _, r.base, hv, h, le.sub r.s0, fun C ods S3 F' H' od p t r' hx => x.le C ods env S3 F' σ H' od p (r.s0.trans t) (r0.at (s1.trans t) (r'.from r.s0)) hx⟩
instance {C : Addr} {m : Str} {spd : SpD} {dvs : List V} {W : WX} {WD : WXD} {ta : TE} {da : TED} {t : TA} {dt : TAD} [UpE K F0 ta da] [UpA K F0 t dt] [WLe K F0 W WD] : UpE K F0 (tMethW C m (upSp K spd) dvs W ta t) (dMethW K C m spd dvs WD da dt) := ⟨fun r0 h le =>
  UpE.up (t := ta) (td := da) r0 h fun x S1 F1 H1 v ⟨ds, hi, hl, h1⟩ s1 r1 v1 => by
    obtain ⟨a, dx, fs, e, e1, kp⟩ := hi.at r1 v1
    refine ⟨a, dx, fs, e, e1, kp.lookupN hl, UpA.up (t := t) (td := dt) (r0.at s1 r1) h1 fun xs S2 F2 H2 vs h2 s2 r2 v2 => ?_⟩
    have hv := v1.mono s2
    rw [e] at hv
    exact upSp.atW (W := W) (WD := WD) (r0.at s1 r1) s2 r2 (.cons hv (v2.app (.to dvs))) h2 (le.mono (s1.trans s2))⟩
theorem pe_methW {X : Cx} {W : WX} {k : Nat} {f C : Addr} {fd : FuncData} {ps : List Str} {sp : Sp} {dvs : List V} {ds : List Value} {m : Str} {pos apos : Pos} {e o : Expr} {es : List Expr} {ta : TE} {t : TA} {pl : Sem Bool} (he : PE X o ta) (c : Cls X.K C) (hm : Meth X.K C m f) (F : FnOk X.prog X.w X.K X.mg X.base (L2.CX X.prog X.w) k f fd ps sp) (hr : Room k X.A) (hb : Binds X.K fd ps ds) (hd : Vals dvs ds) (tk : Takes X W) (ha : PA X (e :: es) t)
    (hst : starEach (e :: es) X.env = (false, eval e X.env) :: starEach es X.env := by rfl) (hpl : (backTo pos (starEach es X.env)).any (·.1) = false := by rfl)
    (ht : eval (.Call (.Attribute o m apos) (e :: es) [] pos) X.env = (do
      let ov ← eval o X.env
      standAt apos.atName
      let (f, first) ← holding [ov] (getMethod ov m pl)
      callWith pos f first (backTo pos (starEach (e :: es) X.env)) (backToKw pos (keywordEach [] X.env))) := by rfl) :
    PE X (.Call (.Attribute o m apos) (e :: es) [] pos) (tMethW C m sp dvs W ta t) := MX.pe_methE he c hm F hr hb hd (fun σ => passAt tk σ) ha hst hpl ht
/-! ### an error's field -/
def dXf (a C' : Addr) (ods : Option (List (Str × D))) (C : Addr) (f : Str) (de : TED) : TED := fun env S P => de env S fun x S1 => x = .ref a ∧ C' = C ∧ ∃ ds v, ods = some ds ∧ ds.lookup f = some v ∧ P v S1
instance {a C' C : Addr} {ods : Option (List (Str × D))} {b : XB K F0 ods} {f : Str} {te : TE} {de : TED} [UpE K F0 te de] : UpE K F0 (tXf a (.ref C') b.od C f te) (dXf a C' ods C f de) := ⟨fun r0 h le =>
  UpE.up (t := te) (td := de) r0 h fun x S1 F1 H1 v ⟨e, ec, ds, v', eo, l, p⟩ s1 r1 v1 => by
    subst e; subst ec; cases v1
    have hx := b.at_
    generalize b.od = od at hx ⊢
    rw [eo] at hx
    cases hx with
    | some h1 h2 h3 =>
      obtain ⟨w, hw, hv⟩ := (KP.of h2 h3).lookup l
      exact ⟨rfl, rfl, _, _, w, rfl, r1.fr _ _ (r1.s0 _ _ h1), hw, le _ _ _ _ _ p s1 r1 (hv.mono r1.s0)⟩⟩
/-! ### try -/
/-- a clause: its class, the slot of its name, its suite -/
structure ClD (K : PySem.W.Frag) where
  c : Addr
  oi : Option Nat
  ts : (F0 : Hp) → (a C : Addr) → (ods : Option (List (Str × D))) → XB K F0 ods → TSD
def endsD : Option Nat → EndsD → EndsD
  | none, P => P
  | some i, P => { nx := fun env S => P.nx (env.set i none) S, rt := P.rt, bk := fun env S => P.bk (env.set i none) S, ct := fun env S => P.ct (env.set i none) S }
def envD : Option Nat → EnvD → Addr → EnvD
  | none, env, _ => env
  | some i, env, a => env.set i (some (.ref a))
/-- how a suite goes -/
structure SuiteD (K : PySem.W.Frag) (q : ClD K) (C : Addr) (ods : Option (List (Str × D))) (P : EndsD) (env : EnvD) (S : Sto) : Prop where
  ex : ∀ (a : Addr) (F0 : Hp) (x : XB K F0 ods), q.ts F0 a C ods x (endsD q.oi P) (envD q.oi env a) S
def mixD (K : PySem.W.Frag) (Wout : WXD) (P : EndsD) : List (ClD K) → WXD
  | [] => Wout
  | q :: r => fun C ods env S => ∃ b, PySem.W.exmOne K (.ref C) (.ref q.c) = some b ∧ if b = true then SuiteD K q C ods P env S else mixD K Wout P r C ods env S
class UpHs (K : PySem.W.Frag) (l : List MX.Cl) (ld : outParam (List (ClD K))) : Prop where
  up : ∀ {F0 F1 F : Hp} {P : EndsD} {Q : Ends} {Wout : WX} {WoutD : WXD} {C : Addr} {ods : Option (List (Str × D))} {od : Option Addr} {env : EnvD} {S : Sto} {σ : L2.St} {H : Hp},
    LeE K F0 F1 P Q → Same F1 F → Rel K F0 F S env σ H → XdAt K F H od ods → (WoutD C ods env S → Wout (.ref C) od σ H) → mixD K WoutD P ld C ods env S → MX.wMix K Wout Q l (.ref C) od σ H
instance : UpHs K [] [] := ⟨fun _ _ _ _ hw h => hw h⟩
theorem RelH.know {F : Hp} {S : Sto} {H : Hp} {d : Addr} {fs : List (Str × V)} (r : RelH K F0 F S H) (h : H d = some (.xd fs)) : Same F (upd F d (.xd fs)) ∧ RelH K F0 (upd F d (.xd fs)) S H := by
  have s : Same F (upd F d (.xd fs)) := fun b u e => by
    by_cases c : b = d
    · subst c
      have := r.fr _ _ e
      rw [h] at this
      rw [upd_same]; exact this
    · rw [upd_ne c]; exact e
  refine ⟨s, r.s0.trans s, fun b u e => ?_, fun b u e => ?_⟩
  · by_cases c : b = d
    · subst c; rw [upd_same] at e; rw [h]; exact e
    · rw [upd_ne c] at e; exact r.fr _ _ e
  · obtain ⟨h1, u2, h2, h3⟩ := r.tr b u e
    have c : b ≠ d := fun z => by
      subst z
      rw [h] at h2; cases h2; cases h3
    exact ⟨by rw [upd_ne c]; exact h1, u2, h2, h3.mono s⟩
theorem Rel.xb {F : Hp} {S : Sto} {env : EnvD} {σ : L2.St} {H : Hp} {od : Option Addr} {ods : Option (List (Str × D))} (r : Rel K F0 F S env σ H) (h : XdAt K F H od ods) : ∃ F', Same F F' ∧ Rel K F0 F' S env σ H ∧ XdAt K F' F' od ods := by
  cases h with
  | none => exact ⟨F, Same.refl _, r, .none⟩
  | some h1 h2 h3 =>
    obtain ⟨s, r'⟩ := r.h.know h1
    exact ⟨_, s, r.at s r', .some upd_same h2 (h3.mono s)⟩
theorem Rel.base {F : Hp} {S : Sto} {env : EnvD} {σ : L2.St} {H : Hp} (r : Rel K F0 F S env σ H) : Rel K F F S env σ H := ⟨r.h.base, r.s⟩
theorem LeN.sub {F : Hp} {P : EnvD → Sto → Prop} {Q : L2.St → Hp → Prop} (s : Same F0 F) (h : LeN K F0 F P Q) : LeN K F F P Q := fun env S F' σ H p t r => h env S F' σ H p t ⟨r.h.from s, r.s⟩
theorem LeE.sub {F : Hp} {P : EndsD} {Q : Ends} (s : Same F0 F) (h : LeE K F0 F P Q) : LeE K F F P Q := ⟨h.nx.sub s, h.rt.sub s, h.bk.sub s, h.ct.sub s⟩
theorem LeN.unset {F : Hp} {P : EnvD → Sto → Prop} {Q : L2.St → Hp → Prop} (i : Nat) (h : LeN K F0 F P Q) : LeN K F0 F (fun env S => P (env.set i none) S) (fun σ H => Q (σ.set i none) H) := fun env S F' σ H p s r => h _ S F' _ H p s ⟨r.h, r.s.unset i none⟩
theorem LeE.ends {F : Hp} {P : EndsD} {Q : Ends} (oi : Option Nat) (h : LeE K F0 F P Q) : LeE K F0 F (endsD oi P) (MX.wEnds oi Q) := by
  cases oi with
  | none => exact h
  | some i => exact ⟨h.nx.unset i, h.rt, h.bk.unset i, h.ct.unset i⟩
instance {c : Addr} {oi : Option Nat} {ts : Addr → Value → Option Addr → TS} {tsd : (F0 : Hp) → (a C : Addr) → (ods : Option (List (Str × D))) → XB K F0 ods → TSD} {l : List MX.Cl} {ld : List (ClD K)}
    [u : ∀ (F0 : Hp) (a C : Addr) (ods : Option (List (Str × D))) (b : XB K F0 ods), UpS K F0 (ts a (.ref C) b.od) (tsd F0 a C ods b)] [UpHs K l ld] : UpHs K ((.ref c, oi, ts) :: l) (⟨c, oi, tsd⟩ :: ld) := ⟨fun {F0 F1 F P Q Wout WoutD C ods od env S σ H} le s1 r hx hw ⟨b, hb, h⟩ => by
  refine ⟨b, hb, fun e a ha => ?_, fun e => ?_⟩
  · subst e
    obtain ⟨F2, s2, r2, x2⟩ := r.xb hx
    have h := (show SuiteD K ⟨c, oi, tsd⟩ C ods P env S from h).ex a F2 ⟨od, x2⟩
    have up := (u F2 a C ods ⟨od, x2⟩).up (σ := MX.wSt oi σ a) (H := H) (Q := MX.wEnds oi Q) (F := F2) (S := S) (env := envD oi env a) (P := endsD oi P)
    refine up ?_ h ?_
    · have r3 := r2.base
      cases oi with
      | none => exact r3
      | some i => exact ⟨r3.h, r3.s.set (.ref a) i⟩
    · exact ((le.mono (s1.trans s2)).sub r2.h.s0).ends oi
  · subst e
    exact UpHs.up (l := l) (ld := ld) le s1 r hx hw h⟩
def tTry (K : PySem.W.Frag) (Wout : WX) (l : List MX.Cl) (tb : WX → TS) : TS := fun D σ H => tb (MX.wMix K Wout D l) D σ H
def noW : WX := fun _ _ _ _ => False
def noWD : WXD := fun _ _ _ _ => False
structure dTry (K : PySem.W.Frag) (WoutD : WXD) (ld : List (ClD K)) (tbd : (F0 : Hp) → (WD : WXD) → WB K F0 WD → TSD) (P : EndsD) (env : EnvD) (S : Sto) : Prop where
  ex : ∀ (F0 : Hp) (b : WB K F0 (mixD K WoutD P ld)), tbd F0 _ b P env S
instance : WLe K F0 noW noWD := ⟨fun _ _ _ _ _ _ _ _ h => h.elim⟩
instance {Wout : WX} {WoutD : WXD} {l : List MX.Cl} {ld : List (ClD K)} {tb : WX → TS} {tbd : (F0 : Hp) → (WD : WXD) → WB K F0 WD → TSD} [x : WLe K F0 Wout WoutD] [UpHs K l ld] [u : ∀ (F0 : Hp) (WD : WXD) (b : WB K F0 WD), UpS K F0 (tb b.W) (tbd F0 WD b)] :
    UpS K F0 (tTry K Wout l tb) (dTry K WoutD ld tbd) := ⟨fun {σ H Q F S env P} r0 h le => by
  have lw := ((le.sub r0.h.s0))
  let b : WB K F (mixD K WoutD P ld) := ⟨MX.wMix K Wout Q l, fun C ods env S F' σ H od p s r hx => UpHs.up (l := l) (ld := ld) (F0 := F) (F1 := F) (F := F') (Wout := Wout) (WoutD := WoutD) lw s r hx (fun q => x.le C ods env S F' σ H od q (r0.h.s0.trans s) ⟨r.h.from r0.h.s0, r.s⟩ hx) p⟩
  exact (u F _ b).up r0.base (h.ex F b) lw⟩
theorem ps_tryV {X : Cx} {body : List Stmt} {h₀ : ExceptHandler} {hds : List ExceptHandler} {l : List MX.Cl} {pos : Pos} {tb : WX → TS} {Wout : WX} (hs : X.stack = X.env :: X.outer) (hf : X.env.frame = some X.env.locals) (tk : Takes X Wout)
    (hb : ∀ (W : WX) (pn : List (Addr × Obj)) (xe : Value → Shared → Prop), Takes (X.tr pn xe) W → PassesOwn (model X.prog X.w) X.A X.env xe → PSs (X.tr pn xe) body (tb W))
    (hh : MX.HdsM X (h₀ :: hds) l) : PS X (.Try body (h₀ :: hds) [] [] pos) (tTry X.K Wout l tb) := MX.ps_try_mix hs hf tk hb hh
theorem takesN {X : Cx} : Takes X noW := takes0
end
end L2.VW

/-! ## dicts compared; promises by their number of values; len of an own object -/
namespace L2.VW
open PySem PySem.Spec PyProof.Rows
/-- every value of ks by a key of ls is as e tells -/
def HitK (K : PySem.W.Frag) (H : Hp) (ks ls : List (Key × V)) (e : Key → Bool) : Prop := ∀ p ∈ ks, ∀ z, valV ls p.1 = some z → ∃ d d', Dp K H p.2 d ∧ Dp K H z d' ∧ (d.plain = true ∧ d.depth ≤ 60) ∧ (d'.plain = true ∧ d'.depth ≤ 60) ∧ e p.1 = PyData.eqv d d'
def rEqKK (K : PySem.W.Frag) (neg : Bool) : R2 := fun x y H Q => ∃ (a b : Addr) (ks ls : List (Key × V)) (e : Key → Bool), x = .ref a ∧ y = .ref b ∧ Rd H a (.dK ks) ∧ Rd H b (.dK ls) ∧ HitK K H ks ls e ∧
  Q (.bl (if neg then !(ks.length == ls.length && ks.all fun p => (valV ls p.1).isSome && e p.1) else (ks.length == ls.length && ks.all fun p => (valV ls p.1).isSome && e p.1))) H
section
variable {X : Cx}
theorem hitsKK {pins : List (Addr × Obj)} {σ : L2.St} {H : Hp} {s : Shared} (I : Inv X pins σ H s) {A : Around} (hu : A.units + 64 < cLine) {kvs : List (Key × V)} {vb : List (Key × Value)} (rb : KV kvs vb) {e : Key → Bool} :
    ∀ {ks : List (Key × V)} {va : List (Key × Value)}, KV ks va → HitK X.K H ks kvs e → PySem.W.KeqHits A s vb va (ks.all fun p => (valV kvs p.1).isSome && e p.1) := by
  intro ks va ra
  unfold KV at ra
  induction ra with
  | nil => intro _; exact .nil
  | @cons p q ps qs h t ih =>
    intro hp
    have ih' := ih fun p' hm => hp p' (List.mem_cons_of_mem _ hm)
    obtain ⟨h1, h2⟩ := h
    have rr : RelO (valV kvs p.1) (valueAt vb p.1) := rb.val p.1
    obtain ⟨k, v⟩ := q
    have h1' : p.1 = k := h1
    rw [List.all_cons]
    cases c : valV kvs p.1 with
    | none =>
      rw [c] at rr
      have : valueAt vb k = none := by rw [← h1']; exact rr.none_of
      exact .miss this
    | some z =>
      rw [c] at rr
      obtain ⟨y, hy, ry⟩ := rr.some_of
      rw [h1'] at hy
      obtain ⟨d, d', hd, hd', s1, s2, e1⟩ := hp p List.mem_cons_self z c
      obtain ⟨as, r1⟩ := Dp.reads I d _ v hd h2
      obtain ⟨bs, r2⟩ := Dp.reads I d' _ y hd' ry
      have ea := SeqAt.eqAt_plain d d' A s _ _ _ _ r1 r2 s1.1 s2.1 (by have := Nat.min_le_left d.depth d'.depth; have := s1.2; omega)
      rw [← e1] at ea
      exact .hit hy ea ih'
theorem op_eqKK (hu : X.A.units + 65 < cLine) : OpR X (compareOp .Eq) (rEqKK X.K false) := by
  intro pins s σ H x y v u Q I rx ry h
  obtain ⟨a, b, ks, ls, e, rfl, rfl, ea, eb, hp, q⟩ := h
  obtain rfl : v = Value.ref a := rx
  obtain rfl : u = Value.ref b := ry
  obtain ⟨_, ya, va, ra, da⟩ := dk_rd I.hok ea
  obtain ⟨_, yb, vb, rb, db⟩ := dk_rd I.hok eb
  refine PySem.W.keq_eq (knd := mixKind X.prog X.w) (r := ks.all fun p => (valV ls p.1).isSome && e p.1) ya yb da db (by omega) (fun _ => hitsKK I (A := X.A.in1) (by show X.A.units + 1 + 64 < cLine; omega) rb ra hp) ?_
  rw [← ra.length, ← rb.length]
  exact ⟨.bl _, H, I, rfl, q⟩
theorem op_neKK (hu : X.A.units + 65 < cLine) : OpR X (compareOp .NotEq) (rEqKK X.K true) := by
  intro pins s σ H x y v u Q I rx ry h
  obtain ⟨a, b, ks, ls, e, rfl, rfl, ea, eb, hp, q⟩ := h
  obtain rfl : v = Value.ref a := rx
  obtain rfl : u = Value.ref b := ry
  obtain ⟨_, ya, va, ra, da⟩ := dk_rd I.hok ea
  obtain ⟨_, yb, vb, rb, db⟩ := dk_rd I.hok eb
  refine PySem.W.keq_ne (knd := mixKind X.prog X.w) (r := ks.all fun p => (valV ls p.1).isSome && e p.1) ya yb da db (by omega) (fun _ => hitsKK I (A := X.A.in1) (by show X.A.units + 1 + 64 < cLine; omega) rb ra hp) ?_
  rw [← ra.length, ← rb.length]
  exact ⟨.bl _, H, I, rfl, q⟩
end
section
variable {K : PySem.W.Frag} {F0 : Hp}
/-- two dicts beside one another -/
def eqDic (kds les : List (Key × D)) : Bool := kds.length == les.length && kds.all fun p => match getD' les p.1 with
  | some z => eqP (py p.2) (py z)
  | none => false
def okDic (kds : List (Key × D)) : Prop := ∀ p ∈ kds, okP (py p.2) = true
theorem getD_mem {kds : List (Key × D)} {k : Key} {d : D} (h : getD' kds k = some d) : (k, d) ∈ kds := by
  unfold getD' at h
  cases e : kds.find? (fun kv => decide (kv.1 = k)) with
  | none => rw [e] at h; cases h
  | some q =>
    rw [e] at h; cases h
    have h1 := List.mem_of_find?_eq_some e
    have h2 : q.1 = k := by simpa using List.find?_some e
    rw [← h2]; exact h1
theorem KP.pair {κ : Type} {F : Hp} : ∀ {kvs : List (κ × V)} {kds : List (κ × D)}, KP K F kvs kds → ∀ p ∈ kvs, ∃ q ∈ kds, p.1 = q.1 ∧ Vd K F p.2 q.2
  | _, _, .nil, p, h => absurd h List.not_mem_nil
  | _, _, .cons a t, p, h => by
    rcases List.mem_cons.mp h with rfl | h
    · exact ⟨_, List.mem_cons_self, a.1, a.2⟩
    · obtain ⟨q, hq, e⟩ := KP.pair t p h
      exact ⟨q, List.mem_cons_of_mem _ hq, e⟩
theorem KP.all {κ : Type} {F : Hp} {f : κ × V → Bool} {g : κ × D → Bool} : ∀ {kvs : List (κ × V)} {kds : List (κ × D)}, KP K F kvs kds → (∀ p q, p ∈ kvs → q ∈ kds → p.1 = q.1 → Vd K F p.2 q.2 → f p = g q) → kvs.all f = kds.all g
  | _, _, .nil, _ => rfl
  | _, _, .cons a t, h => by
    rw [List.all_cons, List.all_cons, h _ _ List.mem_cons_self List.mem_cons_self a.1 a.2, KP.all t fun p q hp hq => h p q (List.mem_cons_of_mem _ hp) (List.mem_cons_of_mem _ hq)]
def dEqK (neg : Bool) : R2D := fun x y S P => ∃ kds les, DicK S x kds ∧ DicK S y les ∧ (kds.map (·.1)).Nodup ∧ okDic kds ∧ okDic les ∧ P (.bl (if neg then !eqDic kds les else eqDic kds les)) S
theorem dp_up {F H : Hp} {v : V} {x : D} {p : PyData} (s : Same F H) (h : py x = some p) (hv : Vd K F v x) : Dp K H v p := pyS.at.dp_monoS s (dp_of h hv)
instance (neg : Bool) : UpR K F0 (rEqKK K neg) (dEqK neg) := ⟨fun {v u x y H Q F S P} r hv hu ⟨kds, les, hx, hy, nd, ox, oy, p⟩ le => by
  obtain ⟨a, kvs, rfl, ra, ka⟩ := hx.at r hv
  obtain ⟨b, lvs, rfl, rb, kb⟩ := hy.at r hu
  let e : Key → Bool := fun k => match getD' kds k, getD' les k with
    | some d, some z => eqP (py d) (py z)
    | _, _ => false
  have at1 : ∀ q ∈ kds, getD' kds q.1 = some q.2 := fun q hq => by
    unfold getD'
    have : kds.find? (fun kv => decide (kv.1 = q.1)) = some q := by
      clear ra ka rb kb hx ox p e
      induction kds with
      | nil => cases hq
      | cons w t ih =>
        rw [List.map_cons, List.nodup_cons] at nd
        rw [List.find?_cons]
        rcases List.mem_cons.mp hq with rfl | hq
        · simp
        · have : w.1 ≠ q.1 := fun e => nd.1 (by rw [e]; exact List.mem_map_of_mem hq)
          simp [this]
          exact ih nd.2 hq
    rw [this]; rfl
  refine ⟨a, b, kvs, lvs, e, rfl, rfl, ra, rb, fun p1 hp1 z hz => ?_, ?_⟩
  · obtain ⟨q, hq, e1, vq⟩ := ka.pair p1 hp1
    rcases kb.getO (k := p1.1) with ⟨_, c⟩ | ⟨w, d, c1, c2, vd⟩
    · rw [c] at hz; cases hz
    · rw [c2] at hz; cases hz
      have o1 := ox q hq
      have o2 := oy _ (getD_mem c1)
      cases g1 : py q.2 with
      | none => rw [g1] at o1; cases o1
      | some d1 =>
        cases g2 : py d with
        | none => rw [g2] at o2; cases o2
        | some d2 =>
          rw [g1] at o1
          have o2' : okP (py d) = true := o2
          rw [g2] at o2'
          refine ⟨d1, d2, dp_up r.fr g1 vq, dp_up r.fr g2 vd, okP_some o1, okP_some o2', ?_⟩
          show (match getD' kds p1.1, getD' les p1.1 with
            | some d, some z => eqP (py d) (py z)
            | _, _ => false) = _
          rw [c1, e1, at1 q hq]
          show eqP (py q.2) (py d) = _
          rw [g1, g2]; rfl
  · have e2 : (kvs.length == lvs.length && kvs.all fun p => (valV lvs p.1).isSome && e p.1) = eqDic kds les := by
      unfold eqDic
      rw [ka.len, kb.len]
      congr 1
      refine ka.all fun p1 q hp hq e1 _ => ?_
      rcases kb.getO (k := p1.1) with ⟨c1, c2⟩ | ⟨w, d, c1, c2, _⟩
      · rw [c2, ← e1, c1]; rfl
      · rw [c2, ← e1, c1]
        show (true && (match getD' kds p1.1, getD' les p1.1 with
            | some d, some z => eqP (py d) (py z)
            | _, _ => false)) = eqP (py q.2) (py d)
        rw [c1, e1, at1 q hq]; rfl
    rw [e2]
    exact le _ _ _ _ _ p (Same.refl _) r (.bl _)⟩
theorem eqP_self {d : D} (h : okP (py d) = true) : eqP (py d) (py d) = true := by
  cases e : py d with
  | none => rw [e] at h; cases h
  | some p => rw [e] at h; exact SeqAt.eqv_refl_plain p (okP_some h).1
/-- the same entries, whatever their order -/
structure ToldD (kds les : List (Key × D)) : Prop where
  len : kds.length = les.length
  get : ∀ k d, (k, d) ∈ kds → getD' les k = some d
theorem eqDic_told {kds les : List (Key × D)} (h : ToldD kds les) (ok : okDic kds) : eqDic kds les = true := by
  unfold eqDic
  rw [h.len, beq_self_eq_true, Bool.true_and, List.all_eq_true]
  rintro ⟨k, d⟩ hm
  rw [h.get k d hm]
  exact eqP_self (ok _ hm)
/-! ### promises by their values -/
def sp0 (f : Sto → PV → XD → Prop) : SpD := fun ds S P PE => ds = [] ∧ f S P PE
def sp1 (f : D → Sto → PV → XD → Prop) : SpD := fun ds S P PE => ∃ x, ds = [x] ∧ f x S P PE
def sp2 (f : D → D → Sto → PV → XD → Prop) : SpD := fun ds S P PE => ∃ x y, ds = [x, y] ∧ f x y S P PE
def sp3 (f : D → D → D → Sto → PV → XD → Prop) : SpD := fun ds S P PE => ∃ x y z, ds = [x, y, z] ∧ f x y z S P PE
def sp4 (f : D → D → D → D → Sto → PV → XD → Prop) : SpD := fun ds S P PE => ∃ x y z u, ds = [x, y, z, u] ∧ f x y z u S P PE
def sp5 (f : D → D → D → D → D → Sto → PV → XD → Prop) : SpD := fun ds S P PE => ∃ x y z u v, ds = [x, y, z, u, v] ∧ f x y z u v S P PE
def sp6 (f : D → D → D → D → D → D → Sto → PV → XD → Prop) : SpD := fun ds S P PE => ∃ x y z u v w, ds = [x, y, z, u, v, w] ∧ f x y z u v w S P PE
theorem sp0_len {f : Sto → PV → XD → Prop} : ∀ ds S P PE, sp0 f ds S P PE → ds.length = 0 := fun _ _ _ _ ⟨e, _⟩ => by rw [e]; rfl
theorem sp1_len {f : D → Sto → PV → XD → Prop} : ∀ ds S P PE, sp1 f ds S P PE → ds.length = 1 := fun _ _ _ _ ⟨_, e, _⟩ => by rw [e]; rfl
theorem sp2_len {f : D → D → Sto → PV → XD → Prop} : ∀ ds S P PE, sp2 f ds S P PE → ds.length = 2 := fun _ _ _ _ ⟨_, _, e, _⟩ => by rw [e]; rfl
theorem sp3_len {f : D → D → D → Sto → PV → XD → Prop} : ∀ ds S P PE, sp3 f ds S P PE → ds.length = 3 := fun _ _ _ _ ⟨_, _, _, e, _⟩ => by rw [e]; rfl
theorem sp4_len {f : D → D → D → D → Sto → PV → XD → Prop} : ∀ ds S P PE, sp4 f ds S P PE → ds.length = 4 := fun _ _ _ _ ⟨_, _, _, _, e, _⟩ => by rw [e]; rfl
theorem sp5_len {f : D → D → D → D → D → Sto → PV → XD → Prop} : ∀ ds S P PE, sp5 f ds S P PE → ds.length = 5 := fun _ _ _ _ ⟨_, _, _, _, _, e, _⟩ => by rw [e]; rfl
theorem sp6_len {f : D → D → D → D → D → D → Sto → PV → XD → Prop} : ∀ ds S P PE, sp6 f ds S P PE → ds.length = 6 := fun _ _ _ _ ⟨_, _, _, _, _, _, e, _⟩ => by rw [e]; rfl
/-! ### len of an own object -/
def dLenO (C : Addr) (spd : SpD) : List D → Sto → PV → Prop := fun xs S P => ∃ x ds, xs = [x] ∧ Ins S x C ds ∧ spd [x] S (fun v S2 => ∃ n : Int, v = .int n ∧ (0 ≤ n ∧ n < 2 ^ 63) ∧ P (.int n) S2) noX
instance {C : Addr} {spd : SpD} : UpC K F0 (MX.rLenO C (upSp K spd)) (dLenO C spd) := ⟨fun {vs xs H Q F S P} r hv ⟨x, ds, e, hi, h⟩ le => by
  subst e
  cases hv with
  | cons hv b =>
    cases b
    obtain ⟨a, dx, fs, rfl, e1, kp⟩ := hi.at r hv
    refine ⟨a, dx, fs, rfl, e1, upSp.at (F0 := F0) (PE := noX) r (.cons hv .nil) h fun y S2 F2 H2 v2 ⟨n, en, hn, p⟩ s2 r2 vv => ?_⟩
    subst en; cases vv
    exact ⟨n, rfl, hn, le _ _ _ _ _ p s2 r2 (.int n)⟩⟩
end
end L2.VW
namespace L2
theorem Room.units65 {k : Nat} {A : PySem.Around} (r : Room k A) : A.units + 65 < PySem.cLine := by have := r.un; omega
end L2
/-! ## dicts whose keys are numbers -/
namespace L2.VW
open PySem PySem.Spec PyProof.Rows
def iK (m : List (Int × D)) : List (Key × D) := m.map fun p => (Sum.inl p.1, p.2)
def getI (m : List (Int × D)) (i : Int) : Option D := (m.find? fun p => decide (p.1 = i)).map (·.2)
def putI (m : List (Int × D)) (i : Int) (d : D) : List (Int × D) := if (m.any fun p => decide (p.1 = i)) = true then m.map (fun p => if p.1 = i then (p.1, d) else p) else m ++ [(i, d)]
def dropI (m : List (Int × D)) (i : Int) : List (Int × D) := m.filter fun p => decide (p.1 ≠ i)
theorem inl_dec (i j : Int) : decide ((Sum.inl i : Key) = Sum.inl j) = decide (i = j) := by
  by_cases c : i = j
  · subst c; simp
  · have : ¬ (Sum.inl i : Key) = Sum.inl j := fun e => c (Sum.inl.inj e)
    rw [decide_eq_false c, decide_eq_false this]
theorem iK_len (m : List (Int × D)) : (iK m).length = m.length := List.length_map ..
theorem iK_get (m : List (Int × D)) (i : Int) : getD' (iK m) (.inl i) = getI m i := by
  unfold getD' getI iK
  rw [List.find?_map]
  have : ((fun kv : Key × D => decide (kv.1 = Sum.inl i)) ∘ fun p : Int × D => (Sum.inl p.1, p.2)) = fun p => decide (p.1 = i) := by
    funext p; exact inl_dec _ _
  rw [this, Option.map_map]; rfl
theorem iK_getS (m : List (Int × D)) (z : Str) : getD' (iK m) (.inr z) = none := by
  unfold getD' iK
  rw [List.find?_map]
  have : ((fun kv : Key × D => decide (kv.1 = Sum.inr z)) ∘ fun p : Int × D => (Sum.inl p.1, p.2)) = fun _ => false := by
    funext p; simp
  rw [this]
  have h : ∀ l : List (Int × D), l.find? (fun _ => false) = none := fun l => by induction l <;> simp_all
  rw [h]; rfl
theorem iK_put (m : List (Int × D)) (i : Int) (d : D) : putD (iK m) (.inl i) d = iK (putI m i d) := by
  unfold putD putI iK
  have e1 : ((m.map fun p : Int × D => ((Sum.inl p.1 : Key), p.2)).any fun kv => decide (kv.1 = Sum.inl i)) = m.any fun p => decide (p.1 = i) := by
    rw [List.any_map]
    congr 1
    funext p; exact inl_dec _ _
  rw [e1]
  split
  · rw [List.map_map, List.map_map]
    apply List.map_congr_left
    intro p _
    show (if (Sum.inl p.1 : Key) = Sum.inl i then _ else _) = _
    by_cases c : p.1 = i
    · simp [c]
    · have : ¬ (Sum.inl p.1 : Key) = Sum.inl i := fun e => c (Sum.inl.inj e)
      simp [c]
  · rw [List.map_append]; rfl
theorem iK_drop (m : List (Int × D)) (i : Int) : dropD (iK m) (.inl i) = iK (dropI m i) := by
  unfold dropD dropI iK
  rw [List.filter_map]
  congr 1
  apply List.filter_congr
  intro p _
  show decide ((Sum.inl p.1 : Key) ≠ Sum.inl i) = decide (p.1 ≠ i)
  by_cases c : p.1 = i
  · simp [c]
  · simp [c]
theorem iK_keys (m : List (Int × D)) : (iK m).map (·.1) = m.map fun p => (Sum.inl p.1 : Key) := by
  unfold iK; rw [List.map_map]; rfl
theorem iK_nodup {m : List (Int × D)} (h : (m.map (·.1)).Nodup) : ((iK m).map (·.1)).Nodup := by
  rw [iK_keys]
  unfold List.Nodup at h ⊢
  rw [List.pairwise_map] at h ⊢
  exact h.imp fun n e => n (Sum.inl.inj e)
theorem getI_nil (i : Int) : getI [] i = none := rfl
theorem getI_cons (p : Int × D) (m : List (Int × D)) (i : Int) : getI (p :: m) i = if p.1 = i then some p.2 else getI m i := by
  unfold getI
  rw [List.find?_cons]
  by_cases c : p.1 = i
  · simp [c]
  · simp [c]
theorem getI_app (m l : List (Int × D)) (i : Int) : getI (m ++ l) i = (getI m i).or (getI l i) := by
  induction m with
  | nil => rfl
  | cons p m ih =>
    rw [List.cons_append, getI_cons, getI_cons, ih]
    split <;> rfl
theorem getI_mem {m : List (Int × D)} {i : Int} {d : D} (h : getI m i = some d) : (i, d) ∈ m := by
  induction m with
  | nil => cases h
  | cons p m ih =>
    rw [getI_cons] at h
    by_cases c : p.1 = i
    · rw [if_pos c] at h; cases h; rw [← c]; exact List.mem_cons_self
    · rw [if_neg c] at h; exact List.mem_cons_of_mem _ (ih h)
theorem getI_of_mem {m : List (Int × D)} {i : Int} {d : D} (nd : (m.map (·.1)).Nodup) (h : (i, d) ∈ m) : getI m i = some d := by
  induction m with
  | nil => cases h
  | cons p m ih =>
    rw [List.map_cons, List.nodup_cons] at nd
    rw [getI_cons]
    rcases List.mem_cons.mp h with rfl | h
    · rw [if_pos rfl]
    · have : p.1 ≠ i := fun e => nd.1 (by rw [e]; exact List.mem_map_of_mem (f := Prod.fst) h)
      rw [if_neg this]; exact ih nd.2 h
theorem getI_none {m : List (Int × D)} {i : Int} : getI m i = none ↔ i ∉ m.map (·.1) := by
  induction m with
  | nil => simp [getI_nil]
  | cons p m ih =>
    rw [getI_cons, List.map_cons, List.mem_cons]
    by_cases c : p.1 = i
    · rw [if_pos c]; simp [c]
    · rw [if_neg c, ih]
      have : ¬ i = p.1 := fun e => c e.symm
      simp [this]
theorem getI_any (m : List (Int × D)) (i : Int) : (m.any fun p => decide (p.1 = i)) = (getI m i).isSome := by
  induction m with
  | nil => rfl
  | cons p m ih =>
    rw [List.any_cons, getI_cons, ih]
    by_cases c : p.1 = i
    · simp [c]
    · simp [c]
theorem getI_put (m : List (Int × D)) (i j : Int) (d : D) : getI (putI m i d) j = if i = j then some d else getI m j := by
  unfold putI
  rw [getI_any]
  cases e : (getI m i).isSome with
  | true =>
    rw [if_pos rfl]
    induction m with
    | nil => simp [getI_nil] at e
    | cons p m ih =>
      rw [List.map_cons, getI_cons]
      rw [getI_cons] at e ⊢
      by_cases c : p.1 = i
      · rw [if_pos c]
        by_cases c2 : i = j
        · simp [c, c2]
        · have c3 : ¬ p.1 = j := fun z => c2 (c.symm.trans z)
          simp only [c3, if_false, c2]
          have : getI (m.map fun p => if p.1 = i then (p.1, d) else p) j = getI m j := by
            clear ih e
            induction m with
            | nil => rfl
            | cons q m ih =>
              rw [List.map_cons, getI_cons, getI_cons, ih]
              by_cases g : q.1 = i
              · have g3 : ¬ q.1 = j := fun z => c2 (g.symm.trans z)
                simp [g, c2]
              · simp [g]
          rw [this]
      · rw [if_neg c] at e ⊢
        rw [ih e]
        by_cases c2 : i = j
        · have c3 : ¬ p.1 = j := fun z => c (z.trans c2.symm)
          simp [c2, c3]
        · simp [c2]
  | false =>
    rw [if_neg (by simp), getI_app, getI_cons, getI_nil]
    by_cases c2 : i = j
    · subst c2
      have : getI m i = none := by cases g : getI m i with | none => rfl | some _ => rw [g] at e; cases e
      rw [this]; simp
    · simp only [c2, if_false]
      cases getI m j <;> rfl
theorem getI_drop (m : List (Int × D)) (i j : Int) : getI (dropI m i) j = if i = j then none else getI m j := by
  unfold dropI
  induction m with
  | nil => simp [getI_nil]
  | cons p m ih =>
    rw [List.filter_cons]
    by_cases c : p.1 = i
    · rw [if_neg (by simp [c]), ih, getI_cons]
      by_cases c2 : i = j
      · simp [c2]
      · have c3 : ¬ p.1 = j := fun z => c2 (c.symm.trans z)
        simp [c2, c3]
    · rw [if_pos (by simp [c]), getI_cons, getI_cons, ih]
      by_cases c2 : i = j
      · have c3 : ¬ p.1 = j := fun z => c (z.trans c2.symm)
        simp [c2, c3]
      · simp [c2]
theorem putI_len {m : List (Int × D)} {i : Int} {d : D} (h : getI m i = none) : (putI m i d).length = m.length + 1 := by
  unfold putI
  rw [getI_any, h, if_neg (by simp), List.length_append]; rfl
theorem putI_new {m : List (Int × D)} {i : Int} {d : D} (h : getI m i = none) : putI m i d = m ++ [(i, d)] := by
  unfold putI
  rw [getI_any, h, if_neg (by simp)]
theorem putI_nodup {m : List (Int × D)} {i : Int} {d : D} (h : (m.map (·.1)).Nodup) : ((putI m i d).map (·.1)).Nodup := by
  cases e : getI m i with
  | none =>
    rw [putI_new e, List.map_append, List.nodup_append]
    refine ⟨h, by simp, fun a ha b hb => ?_⟩
    rw [List.map_cons, List.map_nil, List.mem_singleton] at hb
    subst hb
    intro e2
    subst e2
    exact getI_none.mp e ha
  | some x =>
    unfold putI
    rw [getI_any, e, if_pos (show (some x).isSome = true from rfl), List.map_map]
    have : ((fun p : Int × D => p.1) ∘ fun p : Int × D => if p.1 = i then (p.1, d) else p) = fun p => p.1 := by
      funext p
      show (if p.1 = i then (p.1, d) else p).1 = p.1
      split <;> rfl
    rw [this]; exact h
theorem putI_over_len {m : List (Int × D)} {i : Int} {d : D} (h : (getI m i).isSome = true) : (putI m i d).length = m.length := by
  unfold putI
  rw [getI_any, h, if_pos rfl, List.length_map]
theorem dropI_nodup {m : List (Int × D)} {i : Int} (h : (m.map (·.1)).Nodup) : ((dropI m i).map (·.1)).Nodup := h.sublist ((List.filter_sublist).map _)
theorem dropI_len {m : List (Int × D)} {i : Int} (nd : (m.map (·.1)).Nodup) (h : (getI m i).isSome = true) : (dropI m i).length + 1 = m.length := by
  induction m with
  | nil => simp [getI_nil] at h
  | cons p m ih =>
    rw [List.map_cons, List.nodup_cons] at nd
    rw [getI_cons] at h
    unfold dropI
    rw [List.filter_cons]
    by_cases c : p.1 = i
    · rw [if_neg (by simp [c])]
      have : m.filter (fun p => decide (p.1 ≠ i)) = m := by
        apply List.filter_eq_self.mpr
        intro q hq
        have : q.1 ≠ i := fun e => nd.1 (by rw [c, ← e]; exact List.mem_map_of_mem (f := Prod.fst) hq)
        simp [this]
      rw [this]; rfl
    · rw [if_neg c] at h
      rw [if_pos (by simp [c]), List.length_cons]
      have := ih nd.2 h
      unfold dropI at this
      rw [this]; rfl
theorem dropI_le (m : List (Int × D)) (i : Int) : (dropI m i).length ≤ m.length := List.length_filter_le _ _
theorem getI_perm {m l : List (Int × D)} (nd : (m.map (·.1)).Nodup) (p : l.Perm m) (i : Int) : getI l i = getI m i := by
  have nl : (l.map (·.1)).Nodup := (p.map _).nodup_iff.mpr nd
  cases e : getI m i with
  | none => exact getI_none.mpr fun h => getI_none.mp e ((p.map (·.1)).mem_iff.mp h)
  | some d => exact getI_of_mem nl (p.mem_iff.mpr (getI_mem e))
/-- the least number that is no key -/
def LeastI (m : List (Int × D)) (n : Nat) : Prop := getI m (n : Int) = none ∧ ∀ j : Nat, j < n → (getI m (j : Int)).isSome = true
theorem holesI : ∀ (n : Nat) (l : List Int), (∀ j : Nat, j < n → (j : Int) ∈ l) → n ≤ l.length
  | 0, _, _ => Nat.zero_le _
  | n + 1, l, h => by
    have h1 := h n (Nat.lt_succ_self n)
    have h2 := holesI n (l.erase (n : Int)) (fun m hm => (List.mem_erase_of_ne (by omega)).mpr (h m (by omega)))
    rw [List.length_erase_of_mem h1] at h2
    have : 0 < l.length := List.length_pos_of_mem h1
    omega
theorem least_leI {m : List (Int × D)} {n : Nat} (h : ∀ j : Nat, j < n → (getI m (j : Int)).isSome = true) : n ≤ m.length := by
  have h1 := holesI n (m.map (·.1)) (fun j hj => by
    obtain ⟨v, e⟩ := Option.isSome_iff_exists.mp (h j hj)
    exact List.mem_map_of_mem (f := Prod.fst) (getI_mem e))
  rwa [List.length_map] at h1
theorem LeastI.uniq {m : List (Int × D)} {n k : Nat} (h : LeastI m n) (g : LeastI m k) : n = k := by
  rcases Nat.lt_trichotomy n k with c | c | c
  · have := g.2 n c; rw [h.1] at this; cases this
  · exact c
  · have := h.2 k c; rw [g.1] at this; cases this
theorem ToldD.of_perm {m l : List (Int × D)} (nd : (m.map (·.1)).Nodup) (p : l.Perm m) : ToldD (iK l) (iK m) := by
  refine ⟨by rw [iK_len, iK_len, p.length_eq], fun k d h => ?_⟩
  unfold iK at h
  obtain ⟨⟨i, d'⟩, hm, e⟩ := List.mem_map.mp h
  cases e
  rw [iK_get]
  exact getI_of_mem nd (p.mem_iff.mp hm)
end L2.VW

/-! ## sorted; dict comprehensions -/
namespace L2.VW
open PySem PySem.Spec PyProof.Rows
section
variable {K : PySem.W.Frag} {F0 : Hp}
/-- sorted(d), a dict of fewer than 64 numbers -/
def rSortDI : List V → Hp → VK → Prop := fun xs H Q => ∃ (a : Addr) (kvs : List (Key × V)) (ks : List Int), xs = [.ref a] ∧ Rd H a (.dK kvs) ∧ kvs.map (·.1) = ks.map Sum.inl ∧ ks.length < 64 ∧
  ∀ (ys : List Int) (p : Addr), ys.Perm ks → ys.Pairwise (· ≤ ·) → H p = none → Q (.ref p) (upd H p (.lst (ys.map V.int)))
theorem call_sortDI {X : Cx} (hcalm : X.calm = true) : CallR X (.builtin "sorted") rSortDI := call_sortedDI hcalm
theorem call_sortI {X : Cx} : CallR X (.builtin "sorted") (rSortedI X.K) := cr_sortedI
structure SortedI (ns ys : List Int) : Prop where
  pm : ys.Perm ns
  pw : ys.Pairwise (· ≤ ·)
def dSortDI : List D → Sto → PV → Prop := fun xs S P => ∃ x m, xs = [x] ∧ DicK S x (iK m) ∧ m.length < 64 ∧ ∀ ys, SortedI (m.map (·.1)) ys → P (.lst (ys.map D.int)) S
instance (priority := 2000) {ta : TA} {da : TAD} [UpA K F0 ta da] : UpE K F0 (tKp (tCB rSortDI ta)) (dCB dSortDI da) := ⟨fun {σ H Q F S env P} r0 h le => by
  show tCB rSortDI ta _ _ _
  refine UpA.up (t := ta) (td := da) r0 h fun xs S1 F1 H1 vs ⟨x, m, e, hd, hl, p⟩ s1 r1 v1 => ?_
  subst e
  cases v1 with
  | cons hv b =>
    cases b
    obtain ⟨a, kvs, rfl, rd, kp⟩ := hd.at r1 hv
    refine ⟨a, kvs, m.map (·.1), rfl, rd, ?_, by rw [List.length_map]; exact hl, fun ys q hp hs hq => ?_⟩
    · rw [kp.keys, iK_keys, List.map_map]; rfl
    · obtain ⟨s4, r4⟩ := r1.newF (ho := .lst (ys.map V.int)) hq
      exact le _ _ _ _ _ (p ys ⟨hp, hs⟩) (s1.trans s4) r4 (.lst upd_same (.ofInts ys))⟩
def dSortI : List D → Sto → PV → Prop := fun xs S P => ∃ x ns, xs = [x] ∧ SeqL S x (ns.map D.int) ∧ ∀ ys, SortedI ns ys → P (.lst (ys.map D.int)) S
instance (priority := 2000) {ta : TA} {da : TAD} [UpA K F0 ta da] : UpE K F0 (tKp (tCB (rSortedI K) ta)) (dCB dSortI da) := ⟨fun {σ H Q F S env P} r0 h le => by
  show tCB (rSortedI K) ta _ _ _
  refine UpA.up (t := ta) (td := da) r0 h fun xs S1 F1 H1 vs ⟨x, ns, e, hd, p⟩ s1 r1 v1 => ?_
  subst e
  cases v1 with
  | cons hv b =>
    cases b
    obtain ⟨a, xs, rfl, hq, hx⟩ := hd.at r1 hv
    rw [hx.ints] at hq
    refine ⟨a, ns, rfl, hq, fun ys q hp hs hq => ?_⟩
    obtain ⟨s4, r4⟩ := r1.newF (ho := .lst (ys.map V.int)) hq
    exact le _ _ _ _ _ (p ys ⟨hp, hs⟩) (s1.trans s4) r4 (.lst upd_same (.ofInts ys))⟩
/-! ### dict comprehensions -/
structure DcD (w : WD) (gd : TGD) (ttd : TTD) (kd vd : TED) (vs : List Nat) (env : EnvD) (P : PV) (S1 : Sto) : Prop where
  ex : ∀ L, S1 L = none → ∃ I : Nat → List (Key × D) → Sto → Prop, I 0 [] (sup S1 L (.dK [])) ∧
    (∀ i acc S, i ≤ w.n → I i acc S → S L = some (.dK acc) ∧ w.ok S) ∧
    (∀ i d acc S, i < w.n → w.item i d → I i acc S → gd d (wipeD env vs) S fun env2 S2 => ttd env2 S2 fun b S3 => if b = true then kd env2 S3 fun y S4 => vd env2 S4 fun z S5 => ∃ k, y = kD k ∧ S5 L = some (.dK acc) ∧ acc.length < sizeLine ∧ I (i + 1) (putD acc k z) (sup S5 L (.dK (putD acc k z))) else I (i + 1) acc S3) ∧
    ∀ acc S, I w.n acc S → P (.dK acc) (sdel S L)
def dDcD (wd : TID) (gd : TGD) (ttd : TTD) (kd vd : TED) (vs : List Nat) : TED := fun env S P => wd env S fun w S1 => DcD w gd ttd kd vd vs env P S1
instance (priority := 2000) {wi : TI} {wd : TID} {g : TG} {gd : TGD} {tt : TT} {ttd : TTD} {tk tv : TE} {kd vd : TED} {vs is : List Nat} [UpI K F0 wi wd] [UpG K F0 g gd] [UpT K F0 tt ttd] [UpE K F0 tk kd] [UpE K F0 tv vd] [GFr g is] [Sub is vs] : UpE K F0 (tSl2 (tDc wi g tt tk tv vs)) (dDcD wd gd ttd kd vd vs) := ⟨fun {σ H Q F S env P} r0 h le => by
  show tDc wi g tt tk tv vs _ _ _
  refine UpI.up (t := wi) (td := wd) r0 h fun w S1 F1 H1 J q s1 r1 lk => fun L hL => ?_
  obtain ⟨I, i0, hok, hs, hd⟩ := q.ex L (r1.free hL).2
  have rD := r1.new hL (.dK (kvs := []) (kds := []) rfl .nil)
  refine ⟨fun i m H => m = w.n - i ∧ i ≤ w.n ∧ ∃ F S acc, Same F1 F ∧ RelH K F0 F S H ∧ I i acc S, ⟨_, rfl, Nat.zero_le _, F1, _, [], Same.refl _, rD, i0⟩, ?_⟩
  rintro i m H ⟨rfl, hi, F, S, acc, s2, r2, p⟩
  obtain ⟨eD, ok⟩ := hok i acc S hi p
  by_cases c : i < w.n
  · refine .inr ⟨lk.goes i F S H c s2 r2 ok, fun H' => ∃ F S acc, Same F1 F ∧ RelH K F0 F S H' ∧ I (i + 1) acc S, fun H' q => ⟨w.n - (i + 1), by omega, rfl, c, q⟩, fun x H' hy => ?_⟩
    obtain ⟨F3, d, s3, r3, _, v3, hit⟩ := lk.yields i F S H x H' c s2 r2 ok hy
    have s03 := s1.trans (s2.trans s3)
    refine GFr.mono (g := g) (is := is) (fun σ' H' ⟨q, l1, f1⟩ => ⟨wipe_fr (is := is) (Sub.sub) l1 f1, q⟩) (GFr.fr (g := g) (is := is) (UpG.up (t := g) (td := gd) (F := F3) (env := wipeD env vs) ⟨r3, wipe_rel (r0.s.mono s03) vs⟩ v3 (hs i d acc S c hit p) fun env4 S4 F4 σ4 H4 h4 s4 r4 =>
      UpT.up (t := tt) (td := ttd) r4 h4 fun b S5 F5 H5 h5 s5 r5 => ?_))
    cases b with
    | false => exact ⟨F5, S5, acc, ((s2.trans s3).trans s4).trans s5, r5, h5⟩
    | true =>
      refine UpE.up (t := tk) (td := kd) (r4.at s5 r5) h5 fun y S6 F6 H6 u h6 s6 r6 v6 => ?_
      refine UpE.up (t := tv) (td := vd) (r4.at (s5.trans s6) r6) h6 fun z S7 F7 H7 u7 ⟨k, ek, e7, hl, p7⟩ s7 r7 v7 => ?_
      subst ek
      obtain ⟨kvs, e8, h8, h9⟩ := r7.dK e7
      have kp : KP K F7 kvs acc := .of h8 h9
      have kq := kp.put (k := k) v7
      exact ⟨kvs, k, vd_key v6, e8, by rw [kp.len]; exact hl, F7, _, _, ((((s2.trans s3).trans s4).trans s5).trans s6).trans s7, r7.put e7 (.dK kq.keys kq.vals), p7⟩
  · have e : i = w.n := by omega
    subst e
    obtain ⟨xs, e2, h2, h3⟩ := r2.dK eD
    refine .inl ⟨lk.stops F S H s2 r2 ok, L, _, rfl, e2, .inl ⟨_, rfl⟩, fun od => ?_⟩
    obtain ⟨s3, r3⟩ := r2.seal (ho := .dK xs) (ho' := .frz od (.dK xs)) eD
    exact le _ _ _ _ _ (hd acc S p) ((s1.trans s2).trans s3) r3 (.dK upd_same h2 (h3.mono s3))⟩
structure DcM (w : WD) (gd : TGD) (ttd : TTD) (kd vd : TED) (vs : List Nat) (env : EnvD) (P : PV) (S1 : Sto) : Prop where
  ex : ∀ L, S1 L = none → ∃ I : Nat → List (Key × D) → Sto → Prop, I 0 [] (sup S1 L (.dK [])) ∧
    (∀ i acc S, i ≤ w.n → I i acc S → S L = some (.dK acc) ∧ w.ok S) ∧
    (∀ i d acc S, i < w.n → w.item i d → I i acc S → gd d (wipeD env vs) S fun env2 S2 => ttd env2 S2 fun b S3 => if b = true then kd env2 S3 fun y S4 => vd env2 S4 fun z S5 => ∃ k, y = kD k ∧ S5 L = some (.dK acc) ∧ acc.length < sizeLine ∧ I (i + 1) (putD acc k z) (sup S5 L (.dK (putD acc k z))) else I (i + 1) acc S3) ∧
    ∀ acc S, I w.n acc S → P (.ref L) S
def dDcM (wd : TID) (gd : TGD) (ttd : TTD) (kd vd : TED) (vs : List Nat) : TED := fun env S P => wd env S fun w S1 => DcM w gd ttd kd vd vs env P S1
instance {wi : TI} {wd : TID} {g : TG} {gd : TGD} {tt : TT} {ttd : TTD} {tk tv : TE} {kd vd : TED} {vs is : List Nat} [UpI K F0 wi wd] [UpG K F0 g gd] [UpT K F0 tt ttd] [UpE K F0 tk kd] [UpE K F0 tv vd] [GFr g is] [Sub is vs] : UpE K F0 (tDc wi g tt tk tv vs) (dDcM wd gd ttd kd vd vs) := ⟨fun {σ H Q F S env P} r0 h le => by
  show tDc wi g tt tk tv vs _ _ _
  refine UpI.up (t := wi) (td := wd) r0 h fun w S1 F1 H1 J q s1 r1 lk => fun L hL => ?_
  obtain ⟨I, i0, hok, hs, hd⟩ := q.ex L (r1.free hL).2
  have rD := r1.new hL (.dK (kvs := []) (kds := []) rfl .nil)
  refine ⟨fun i m H => m = w.n - i ∧ i ≤ w.n ∧ ∃ F S acc, Same F1 F ∧ RelH K F0 F S H ∧ I i acc S, ⟨_, rfl, Nat.zero_le _, F1, _, [], Same.refl _, rD, i0⟩, ?_⟩
  rintro i m H ⟨rfl, hi, F, S, acc, s2, r2, p⟩
  obtain ⟨eD, ok⟩ := hok i acc S hi p
  by_cases c : i < w.n
  · refine .inr ⟨lk.goes i F S H c s2 r2 ok, fun H' => ∃ F S acc, Same F1 F ∧ RelH K F0 F S H' ∧ I (i + 1) acc S, fun H' q => ⟨w.n - (i + 1), by omega, rfl, c, q⟩, fun x H' hy => ?_⟩
    obtain ⟨F3, d, s3, r3, _, v3, hit⟩ := lk.yields i F S H x H' c s2 r2 ok hy
    have s03 := s1.trans (s2.trans s3)
    refine GFr.mono (g := g) (is := is) (fun σ' H' ⟨q, l1, f1⟩ => ⟨wipe_fr (is := is) (Sub.sub) l1 f1, q⟩) (GFr.fr (g := g) (is := is) (UpG.up (t := g) (td := gd) (F := F3) (env := wipeD env vs) ⟨r3, wipe_rel (r0.s.mono s03) vs⟩ v3 (hs i d acc S c hit p) fun env4 S4 F4 σ4 H4 h4 s4 r4 =>
      UpT.up (t := tt) (td := ttd) r4 h4 fun b S5 F5 H5 h5 s5 r5 => ?_))
    cases b with
    | false => exact ⟨F5, S5, acc, ((s2.trans s3).trans s4).trans s5, r5, h5⟩
    | true =>
      refine UpE.up (t := tk) (td := kd) (r4.at s5 r5) h5 fun y S6 F6 H6 u h6 s6 r6 v6 => ?_
      refine UpE.up (t := tv) (td := vd) (r4.at (s5.trans s6) r6) h6 fun z S7 F7 H7 u7 ⟨k, ek, e7, hl, p7⟩ s7 r7 v7 => ?_
      subst ek
      obtain ⟨kvs, e8, h8, h9⟩ := r7.dK e7
      have kp : KP K F7 kvs acc := .of h8 h9
      have kq := kp.put (k := k) v7
      exact ⟨kvs, k, vd_key v6, e8, by rw [kp.len]; exact hl, F7, _, _, ((((s2.trans s3).trans s4).trans s5).trans s6).trans s7, r7.put e7 (.dK kq.keys kq.vals), p7⟩
  · have e : i = w.n := by omega
    subst e
    exact .inl ⟨lk.stops F S H s2 r2 ok, le _ _ _ _ _ (hd acc S p) (s1.trans s2) r2 (.ref L)⟩⟩
def foldK (l : List (Key × D)) : List (Key × D) := l.foldl (fun acc p => putD acc p.1 p.2) []
theorem foldK_snoc (l : List (Key × D)) (p : Key × D) : foldK (l ++ [p]) = putD (foldK l) p.1 p.2 := by unfold foldK; rw [List.foldl_append]; rfl
theorem putD_le (acc : List (Key × D)) (k : Key) (d : D) : (putD acc k d).length ≤ acc.length + 1 := by
  unfold putD
  split
  · rw [List.length_map]; exact Nat.le_succ _
  · rw [List.length_append]; exact Nat.le_refl _
theorem foldK_le : ∀ l : List (Key × D), (foldK l).length ≤ l.length := by
  intro l
  unfold foldK
  have : ∀ (l : List (Key × D)) (acc : List (Key × D)), (l.foldl (fun acc p => putD acc p.1 p.2) acc).length ≤ acc.length + l.length := fun l => by
    induction l with
    | nil => intro acc; exact Nat.le_refl _
    | cons p l ih => intro acc; rw [List.foldl_cons, List.length_cons]; have h1 := ih (putD acc p.1 p.2); have h2 := putD_le acc p.1 p.2; omega
  have := this l []
  simpa using this
/-- a dict comprehension that leaves all as it was: f tells what is made of each item -/
theorem dcD_pure {w : WD} {gd : TGD} {ttd : TTD} {kd vd : TED} {vs : List Nat} {env : EnvD} {S1 : Sto} {P : PV} (xs : List D) (f : D → Option (Key × D)) (hn : w.n = xs.length) (hi : ∀ i d, i < w.n → w.item i d → xs[i]? = some d) (hl : xs.length < sizeLine)
    (hok : ∀ L acc, S1 L = none → w.ok (sup S1 L (.dK acc)))
    (ht : ∀ (d : D) (L : Addr) (u : HD) (Zy : D → D → Sto → Prop) (Zn : Sto → Prop), d ∈ xs → S1 L = none → (∀ y, f d = some y → Zy (kD y.1) y.2 (sup S1 L u)) → (f d = none → Zn (sup S1 L u)) →
      gd d (wipeD env vs) (sup S1 L u) fun env2 S2 => ttd env2 S2 fun b S3 => if b = true then kd env2 S3 fun y S4 => vd env2 S4 (Zy y) else Zn S3)
    (hp : P (.dK (foldK (xs.filterMap f))) S1) :
    DcD w gd ttd kd vd vs env P S1 := ⟨fun L hL => by
  refine ⟨fun i acc S => acc = foldK ((xs.take i).filterMap f) ∧ S = sup S1 L (.dK acc), ⟨rfl, rfl⟩, fun i acc S _ ⟨_, e⟩ => ?_, fun i d acc S hlt hit ⟨e1, e2⟩ => ?_, fun acc S ⟨e1, e2⟩ => ?_⟩
  · subst e
    exact ⟨sup_same, hok L _ hL⟩
  · have hx := hi i d hlt hit
    have ht1 : xs.take (i + 1) = xs.take i ++ [d] := by rw [List.take_add_one, hx]; rfl
    have hal : acc.length < sizeLine := by
      rw [e1]
      refine Nat.lt_of_le_of_lt (foldK_le _) (Nat.lt_of_le_of_lt (List.length_filterMap_le _ _) ?_)
      rw [List.length_take]; omega
    subst e2
    refine ht d L _ (fun y z S5 => ∃ k, y = kD k ∧ S5 L = some (.dK acc) ∧ acc.length < sizeLine ∧ _) _ (List.mem_of_getElem? hx) hL (fun y hy => ?_) (fun hy => ?_)
    · refine ⟨y.1, rfl, sup_same, hal, ?_, by rw [sup_sup]⟩
      rw [ht1, List.filterMap_append, List.filterMap_cons, hy, e1]
      show _ = foldK (List.filterMap f (List.take i xs) ++ [y])
      rw [foldK_snoc]
    · refine ⟨?_, rfl⟩
      rw [ht1, List.filterMap_append, ← e1.symm, List.filterMap_cons, hy]
      simp
  · subst e2
    rw [sdel_sup hL, e1, hn, List.take_length]
    exact hp⟩
/-- .. a dict that may still change -/
theorem dcM_pure {w : WD} {gd : TGD} {ttd : TTD} {kd vd : TED} {vs : List Nat} {env : EnvD} {S1 : Sto} {P : PV} (xs : List D) (f : D → Option (Key × D)) (hn : w.n = xs.length) (hi : ∀ i d, i < w.n → w.item i d → xs[i]? = some d) (hl : xs.length < sizeLine)
    (hok : ∀ L acc, S1 L = none → w.ok (sup S1 L (.dK acc)))
    (ht : ∀ (d : D) (L : Addr) (u : HD) (Zy : D → D → Sto → Prop) (Zn : Sto → Prop), d ∈ xs → S1 L = none → (∀ y, f d = some y → Zy (kD y.1) y.2 (sup S1 L u)) → (f d = none → Zn (sup S1 L u)) →
      gd d (wipeD env vs) (sup S1 L u) fun env2 S2 => ttd env2 S2 fun b S3 => if b = true then kd env2 S3 fun y S4 => vd env2 S4 (Zy y) else Zn S3)
    (hp : ∀ L, S1 L = none → P (.ref L) (sup S1 L (.dK (foldK (xs.filterMap f))))) :
    DcM w gd ttd kd vd vs env P S1 := ⟨fun L hL => by
  refine ⟨fun i acc S => acc = foldK ((xs.take i).filterMap f) ∧ S = sup S1 L (.dK acc), ⟨rfl, rfl⟩, fun i acc S _ ⟨_, e⟩ => ?_, fun i d acc S hlt hit ⟨e1, e2⟩ => ?_, fun acc S ⟨e1, e2⟩ => ?_⟩
  · subst e
    exact ⟨sup_same, hok L _ hL⟩
  · have hx := hi i d hlt hit
    have ht1 : xs.take (i + 1) = xs.take i ++ [d] := by rw [List.take_add_one, hx]; rfl
    have hal : acc.length < sizeLine := by
      rw [e1]
      refine Nat.lt_of_le_of_lt (foldK_le _) (Nat.lt_of_le_of_lt (List.length_filterMap_le _ _) ?_)
      rw [List.length_take]; omega
    subst e2
    refine ht d L _ (fun y z S5 => ∃ k, y = kD k ∧ S5 L = some (.dK acc) ∧ acc.length < sizeLine ∧ _) _ (List.mem_of_getElem? hx) hL (fun y hy => ?_) (fun hy => ?_)
    · refine ⟨y.1, rfl, sup_same, hal, ?_, by rw [sup_sup]⟩
      rw [ht1, List.filterMap_append, List.filterMap_cons, hy, e1]
      show _ = foldK (List.filterMap f (List.take i xs) ++ [y])
      rw [foldK_snoc]
    · refine ⟨?_, rfl⟩
      rw [ht1, List.filterMap_append, ← e1.symm, List.filterMap_cons, hy]
      simp
  · subst e2
    rw [e1, hn, List.take_length]
    exact hp L hL⟩
/-- keys that are new each time -/
theorem foldK_new : ∀ {m : List (Int × D)}, (m.map (·.1)).Nodup → foldK (iK m) = iK m := by
  have gen : ∀ (m acc : List (Int × D)), ((acc ++ m).map (·.1)).Nodup → (iK m).foldl (fun acc p => putD acc p.1 p.2) (iK acc) = iK (acc ++ m) := fun m => by
    induction m with
    | nil => intro acc _; rw [List.append_nil]; rfl
    | cons p m ih =>
      intro acc nd
      show (iK m).foldl _ (putD (iK acc) (.inl p.1) p.2) = _
      have nd' := nd
      rw [List.map_append, List.nodup_append] at nd
      have hn : getI acc p.1 = none := getI_none.mpr fun hm => nd.2.2 _ hm p.1 (by simp) rfl
      rw [iK_put, putI_new hn]
      have e : acc ++ [(p.1, p.2)] ++ m = acc ++ p :: m := by simp
      rw [ih _ (by rw [e]; exact nd'), e]
  intro m nd
  exact gen m [] nd
/-! ### dicts whose keys are numbers: looked up, put, taken -/
theorem dgotI {S : Sto} {x : D} {m : List (Int × D)} {i : Int} (h : DicK S x (iK m)) : DGot S x (.int i) (getI m i) := .inl ⟨iK m, .inl i, h, rfl, (iK_get m i).symm⟩
theorem dputI {S : Sto} {a : Addr} {m : List (Int × D)} {i : Int} {v : D} (h : S a = some (.dK (iK m))) (hl : m.length < sizeLine) : DPutD S a (.int i) v (sup S a (.dK (iK (putI m i v)))) :=
  .inl ⟨iK m, .inl i, h, rfl, by rw [iK_len]; exact hl, by rw [iK_put]⟩
theorem dputI0 {S : Sto} {a : Addr} {i : Int} {v : D} (h : S a = some (.dK [])) : DPutD S a (.int i) v (sup S a (.dK (iK [(i, v)]))) :=
  .inl ⟨iK [], .inl i, h, rfl, by rw [iK_len]; decide, by rw [iK_put]; rfl⟩
def DPopD (S : Sto) (a : Addr) (y d : D) (S' : Sto) : Prop := ∃ kds k, S a = some (.dK kds) ∧ y = kD k ∧ getD' kds k = some d ∧ S' = sup S a (.dK (dropD kds k))
theorem dpopI {S : Sto} {a : Addr} {m : List (Int × D)} {i : Int} {d : D} (h : S a = some (.dK (iK m))) (hg : getI m i = some d) : DPopD S a (.int i) d (sup S a (.dK (iK (dropI m i)))) :=
  ⟨iK m, .inl i, h, rfl, by rw [iK_get]; exact hg, by rw [iK_drop]⟩
def zDPopD (dd dy : TED) : TED := fun env S P => dd env S fun x S1 => ∃ a, x = .ref a ∧ IsDic S1 x ∧ dy env S1 fun y S2 => ∃ d S3, DPopD S2 a y d S3 ∧ P d S3
instance (priority := 1500) {td ty : TE} {dd dy : TED} [UpE K F0 td dd] [UpE K F0 ty dy] : UpE K F0 (tDPop1 td ty) (zDPopD dd dy) := ⟨fun r0 h le =>
  UpE.up (t := td) (td := dd) r0 h fun x S1 F1 H1 v ⟨a, e, hi, h1⟩ s1 r1 v1 => by
    subst e
    obtain ⟨a', e', hd⟩ := hi.at r1 v1
    cases v1; cases e'
    refine ⟨a, rfl, hd, UpE.up (t := ty) (td := dy) (r0.at s1 r1) h1 fun y S2 F2 H2 u ⟨d, S3, ⟨kds, k, e2, ey, hg, e9⟩, p⟩ s2 r2 v2 => ?_⟩
    subst ey; subst e9
    obtain ⟨kvs, e3, h3, h4⟩ := r2.dK e2
    have kp : KP K F2 kvs kds := .of h3 h4
    obtain ⟨w, hw, hv⟩ := kp.get hg
    have kq := kp.drop (k := k)
    exact ⟨kvs, k, w, e3, vd_key v2, hw, le _ _ _ _ _ p (s1.trans s2) (r2.put e2 (.dK kq.keys kq.vals)) hv⟩⟩
def zDGet (dd dy : TED) : TED := fun env S P => dd env S fun x S1 => dy env S1 fun y S2 => ∃ o, DGot S2 x y o ∧ ∃ d, o = some d ∧ P d S2
instance (priority := 1500) {td ty : TE} {dd dy : TED} [UpE K F0 td dd] [UpE K F0 ty dy] : UpE K F0 (tDGet td ty) (zDGet dd dy) := ⟨fun r0 h le =>
  UpE.up (t := td) (td := dd) r0 h fun x S1 F1 H1 v h1 s1 r1 v1 => UpE.up (t := ty) (td := dy) (r0.at s1 r1) h1 fun y S2 F2 H2 u ⟨o, hg, d, eo, p⟩ s2 r2 v2 => by
    subst eo
    obtain ⟨a, ov, e, dg, _, hh⟩ := hg.at r2 (v1.mono s2) v2
    rcases hh with ⟨c, _⟩ | ⟨w, d', e1, e2, hv⟩
    · cases c
    · cases e2
      subst e1
      exact ⟨a, w, e, dg, le _ _ _ _ _ p (s1.trans s2) r2 hv⟩⟩
/-- the same, of items known within the walk alone: a comprehension that leaves all as it was: f tells what is made of each item -/
theorem lcD_pureR {w : WD} {gd : TGD} {ttd : TTD} {ed : TED} {vs : List Nat} {env : EnvD} {S1 : Sto} {P : PV} (xs : List D) (f : D → Option D) (hn : w.n = xs.length) (hi : ∀ i d, i < w.n → w.item i d → xs[i]? = some d) (hl : xs.length < sizeLine)
    (hok : ∀ L acc, S1 L = none → w.ok (sup S1 L (.lst acc)))
    (ht : ∀ (d : D) (S : Sto) (Zy : D → Sto → Prop) (Zn : Sto → Prop), d ∈ xs → (∀ a o, S1 a = some o → S a = some o) → (∀ y, f d = some y → Zy y S) → (f d = none → Zn S) →
      gd d (wipeD env vs) S fun env2 S2 => ttd env2 S2 fun b S3 => if b = true then ed env2 S3 Zy else Zn S3)
    (hp : P (.lst (xs.filterMap f)) S1) :
    LcD w gd ttd ed vs env P S1 := ⟨fun L hL => by
  refine ⟨fun i acc S => acc = (xs.take i).filterMap f ∧ S = sup S1 L (.lst acc), ⟨rfl, rfl⟩, fun i acc S _ ⟨_, e⟩ => ?_, fun i d acc S hlt hit ⟨e1, e2⟩ => ?_, fun acc S ⟨e1, e2⟩ => ?_⟩
  · subst e
    exact ⟨sup_same, hok L _ hL⟩
  · have hx := hi i d hlt hit
    have ht1 : xs.take (i + 1) = xs.take i ++ [d] := by rw [List.take_add_one, hx]; rfl
    have hal : acc.length < sizeLine := by
      rw [e1]
      refine Nat.lt_of_le_of_lt (List.length_filterMap_le _ _) ?_
      rw [List.length_take]; omega
    refine ht d S _ _ (List.mem_of_getElem? hx) (fun a o e => by rw [e2, sup_ne (sne_of e hL)]; exact e) (fun y hy => ?_) (fun hy => ?_)
    · subst e2
      refine ⟨sup_same, hal, ?_, by rw [sup_sup]⟩
      rw [ht1, List.filterMap_append, ← e1, List.filterMap_cons, hy]; rfl
    · refine ⟨?_, e2⟩
      rw [ht1, List.filterMap_append, ← e1, List.filterMap_cons, hy]
      simp
  · subst e2
    rw [sdel_sup hL, e1, hn, List.take_length]
    exact hp⟩
/-- {}, data -/
instance (priority := 2000) : UpE K F0 (tSl2 tDNewK) (dC (.dK [])) := ⟨fun {σ H Q F S env P} r0 h le => by
  intro p hp
  refine ⟨p, .dK [], rfl, upd_same, .inl ⟨_, rfl⟩, fun od => ?_⟩
  rw [upd_upd]
  obtain ⟨s2, r2⟩ := r0.h.newF (ho := .frz od (.dK [])) hp
  exact le _ _ _ _ _ h s2 r2 (.dK (kvs := []) upd_same rfl .nil)⟩
/-! ### x += .. -/
instance (f : Int → Int → Int) : UpR K F0 (ipI f) (dI0 fun i j => .int (f i j)) := ⟨fun r hv hu ⟨i, j, e1, e2, p⟩ le => by
  subst e1; subst e2; cases hv; cases hu
  exact ⟨i, j, rfl, rfl, le _ _ _ _ _ p (Same.refl _) r (.int _)⟩⟩
def zAug (i : Nat) (de : TED) (rd : R2D) : TSD := fun P env S => ∃ x, env[i]? = some (some x) ∧ de env S fun y S1 => rd x y S1 fun z S2 => P.nx (env.set i (some z)) S2
instance {i : Nat} {te : TE} {de : TED} {ti : TIp} {rd : R2D} [UpE K F0 te de] [UpR K F0 ti rd] : UpS K F0 (tAug i te ti) (zAug i de rd) := ⟨fun r0 ⟨x, e, h⟩ le => by
  obtain ⟨v, h1, h2⟩ := r0.s.get e
  exact ⟨v, h1, UpE.up (t := te) (td := de) r0 h fun y S1 F1 H1 u p s1 r1 v1 => UpR.up (r := ti) (rd := rd) r1 (h2.mono s1) v1 p fun z S2 F2 H2 q p2 s2 r2 v2 => le.nx _ _ _ _ _ p2 (s1.trans s2) ⟨r2, (r0.s.mono (s1.trans s2)).set v2 i⟩⟩⟩
/-! ### d.clear() -/
instance : UpM K F0 rDClear (fun x vs S P => ∃ a kds, x = .ref a ∧ vs = [] ∧ S a = some (.dK kds) ∧ P .non (sup S a (.dK []))) := ⟨fun r hv hvs ⟨a, ds, e1, e2, e3, p⟩ le => by
  subst e1; subst e2; cases hv; cases hvs
  obtain ⟨xs, e4, h3, h4⟩ := r.dK e3
  exact ⟨a, xs, rfl, rfl, e4, le _ _ _ _ _ p (Same.refl _) (r.put e3 (.dK (kvs := []) (kds := []) rfl .nil)) .non⟩⟩
def dDClear (da : TED) : TED := fun env S P => da env S fun x S1 => ∃ a kds, x = .ref a ∧ S1 a = some (.dK kds) ∧ P .non (sup S1 a (.dK []))
instance (priority := 1500) {to : TE} {da : TED} [UpE K F0 to da] : UpE K F0 (tBM0 K "dict" rDClear to) (dDClear da) := ⟨fun r0 h le =>
  UpE.up (t := to) (td := da) r0 h fun x S1 F1 H1 v ⟨a, kds, e, e3, p⟩ s1 r1 v1 => by
    subst e; cases v1
    obtain ⟨xs, e4, h3, h4⟩ := r1.dK e3
    exact ⟨.inr (.inr (.inl ⟨rfl, .inl ⟨_, e4⟩⟩)), a, xs, rfl, rfl, e4, le _ _ _ _ _ p s1 (r1.put e3 (.dK (kvs := []) (kds := []) rfl .nil)) .non⟩⟩
theorem sup_none {S : Sto} {a b : Addr} {o : HD} (h : sup S a o b = none) : b ≠ a ∧ S b = none := by
  have n : b ≠ a := fun e => by rw [e, sup_same] at h; cases h
  exact ⟨n, by rwa [sup_ne n] at h⟩
/-! ### fields of an object -/
theorem setF_eq {f : Str} {x v : D} {r : List (Str × D)} : setF f v ((f, x) :: r) = (f, v) :: r := by unfold setF; rw [if_pos rfl]
theorem setF_ne {f g : Str} {x v : D} {r : List (Str × D)} (h : (g == f) = false) : setF f v ((g, x) :: r) = (g, x) :: setF f v r := by
  have : ¬ g = f := fun e => by rw [e, beq_self_eq_true] at h; cases h
  show (if g = f then _ else _) = _
  rw [if_neg this]
theorem look_ne {f g : Str} {x : D} {r : List (Str × D)} (h : (f == g) = false) : List.lookup f ((g, x) :: r) = List.lookup f r := by rw [List.lookup_cons, h]
theorem look_eq {f : Str} {x : D} {r : List (Str × D)} : List.lookup f ((f, x) :: r) = some x := by rw [List.lookup_cons, beq_self_eq_true]
end
end L2.VW

/-! ## calls by keywords -/
namespace L2.VW
open PySem PySem.Spec PyProof.Rows
section
variable {K : PySem.W.Frag} {F0 : Hp}
/-- how values by places and by keywords are put together -/
class UpB (gV : List V → List V → List V) (gD : outParam (List D → List D → List D)) : Prop where
  up : ∀ {K : PySem.W.Frag} {F : Hp} {vs ws : List V} {ds es : List D}, VdAll K F vs ds → VdAll K F ws es → VdAll K F (gV vs ws) (gD ds es)
instance : UpB (fun us ws => us ++ ws) (fun us ws => us ++ ws) := ⟨fun a b => a.app b⟩
instance : UpB (fun us ws => us ++ ws.reverse) (fun us ws => us ++ ws.reverse) := ⟨fun a b => a.app b.rev⟩
instance : UpB (fun _ ws => ws) (fun _ ws => ws) := ⟨fun _ b => b⟩
def dCallN (n m : Nat) (spd : SpD) (gD : List D → List D → List D) (PE : XD) (dt dk : TAD) : TED := fun env S P => dt env S fun xs S1 => dk env S1 fun zs S2 => xs.length = n ∧ zs.length = m ∧ spd (gD xs zs) S2 P PE
instance {n m : Nat} {spd : SpD} {gV : List V → List V → List V} {gD : List D → List D → List D} {E : XK} {PE : XD} {t tk : TA} {dt dk : TAD} [UpA K F0 t dt] [UpA K F0 tk dk] [UpB gV gD] [XLe K F0 E PE] : UpE K F0 (L2.tCallN n m (upSp K spd) gV E t tk) (dCallN n m spd gD PE dt dk) := ⟨fun r0 h le =>
  UpA.up (t := t) (td := dt) r0 h fun xs S1 F1 H1 vs h1 s1 r1 v1 => UpA.up (t := tk) (td := dk) (r0.at s1 r1) h1 fun zs S2 F2 H2 ws ⟨l1, l2, h2⟩ s2 r2 v2 =>
    ⟨by rw [v1.len]; exact l1, by rw [v2.len]; exact l2, upSp.at (PE := PE) r2 (UpB.up (gV := gV) (gD := gD) (v1.mono s2) v2) h2 (le.mono (s1.trans s2))⟩⟩
def dMakeK (C : Addr) (n m : Nat) (spd : SpD) (gD : List D → List D → List D) (PE : XD) (dt dk : TAD) : TED := fun env S P => dt env S fun xs S1 => dk env S1 fun zs S2 => xs.length = n ∧ zs.length = m ∧ ∀ p, S2 p = none → spd (gD (.ref p :: xs) zs) (sup S2 p (.ins C [])) (fun v S3 => v = .non ∧ P (.ref p) S3) PE
instance {C : Addr} {n m : Nat} {spd : SpD} {gV : List V → List V → List V} {gD : List D → List D → List D} {E : XK} {PE : XD} {t tk : TA} {dt dk : TAD} [UpA K F0 t dt] [UpA K F0 tk dk] [UpB gV gD] [XLe K F0 E PE] : UpE K F0 (tMakeK C n m (upSp K spd) gV E t tk) (dMakeK C n m spd gD PE dt dk) := ⟨fun r0 h le =>
  UpA.up (t := t) (td := dt) r0 h fun xs S1 F1 H1 vs h1 s1 r1 v1 => UpA.up (t := tk) (td := dk) (r0.at s1 r1) h1 fun zs S2 F2 H2 ws ⟨l1, l2, h2⟩ s2 r2 v2 =>
    ⟨by rw [v1.len]; exact l1, by rw [v2.len]; exact l2, fun p dx hp hd hn => by
      have g : Same H2 (upd H2 dx (.own p)) := fun b u e => by rw [upd_ne (ne_of_none e hd)]; exact e
      have r3 := r2.grow g
      have hp2 : upd H2 dx (.own p) p = none := by rw [upd_ne (Ne.symm hn)]; exact hp
      have r4 := r3.new (o := .ins C []) hp2 (.ins (dx := dx) (fs := []) (ds := []) rfl .nil)
      exact upSp.at (PE := PE) r4 (UpB.up (gV := gV) (gD := gD) (.cons (.ref p) (v1.mono s2)) v2) (h2 p (r2.free hp).2) fun x S3 F3 H3 v ⟨e, p2⟩ s3 r5 v5 => by
        subst e; cases v5
        exact ⟨rfl, le _ _ _ _ _ p2 ((s1.trans s2).trans s3) r5 (.ref p)⟩⟩⟩
end
end L2.VW

/-! ## attributes as targets; one value for several targets; the fields of an object -/
namespace L2
open PySem PySem.Spec PyProof.Rows
section
variable {X : Cx}
/-- o.f = .. as a target -/
def gFld (K : PySem.W.Frag) (ta : TE) (f : Str) : TG := fun v σ H Q => ta σ H fun x H2 => ∃ a C dx fs, x = .ref a ∧ H2 a = some (.ins C dx fs) ∧ Cls K C ∧ NoAttr K C f ∧ fs.length < 1000 ∧ Q σ (upd H2 a (.ins C dx (putF f v fs)))
theorem pg_fldT {o : Expr} {f : Str} {pos : Pos} {ta : TE} (ha : PE X o ta)
    (he : ∀ v, assign (.Attribute o f pos) X.env v = (do
      let ov ← holding [v] (eval o X.env)
      standAt pos.atName
      holding [v, ov] (setAttr ov f v)
      release [v, ov] []) := by intro _; rfl) : PG X (.Attribute o f pos) (gFld X.K ta f) := by
  refine ⟨fun pins s σ H v u Q I r h => ?_⟩
  rw [he]
  refine wpAny_bind (wpAny_holding (thn (ha.run pins s σ H _ I h) fun ov s1 ⟨x, H1, I1, r1, a, C, dx, fs, ex, ea, c, n, hl, q⟩ => ?_))
  subst ex
  obtain rfl : ov = Value.ref a := r1
  refine wpAny_bind (wpAny_standAt (wpAny_bind (wpAny_holding (setattr_ok I1 ea c n hl r fun s3 I3 => ?_))))
  exact wpAny_release ⟨σ, _, I3, q⟩
/-- one value, several targets -/
def gAll : List TG → TG
  | [] => fun _ σ H Q => Q σ H
  | g :: r => fun v σ H Q => g v σ H fun σ1 H1 => gAll r v σ1 H1 Q
inductive PGA (X : Cx) : List Expr → List TG → Prop
  | nil : PGA X [] []
  | cons {e : Expr} {es : List Expr} {g : TG} {gs : List TG} : PG X e g → PGA X es gs → PGA X (e :: es) (g :: gs)
theorem pga_run {es : List Expr} {gs : List TG} (h : PGA X es gs) : ∀ {pins : List (Addr × Obj)} {s : Shared} {σ : St} {H : Hp} {v : V} {u : Value} {Q : St → Hp → Prop}, Inv X pins σ H s → RelV v u → gAll gs v σ H Q →
    wpAny (model X.prog X.w) X.A (assignAll u (es.map fun e => assign e X.env)) (fun _ s' => ∃ σ' H', Inv X pins σ' H' s' ∧ Q σ' H') X.xe s := by
  induction h with
  | nil => intro pins s σ H v u Q I r q; exact wpAny_pure ⟨σ, H, I, q⟩
  | @cons e es g gs hg t ih =>
    intro pins s σ H v u Q I r q
    have k := hg.run pins s σ H v u _ I r q
    cases t with
    | nil => exact thn k fun _ s1 ⟨σ1, H1, I1, q1⟩ => ⟨σ1, H1, I1, q1⟩
    | @cons e2 es2 g2 gs2 hg2 t2 =>
      show wpAny _ _ (do holding [u] (assign e X.env u); assignAll u (assign e2 X.env :: es2.map fun e => assign e X.env)) _ _ _
      exact wpAny_bind (wpAny_holding (thn k fun _ s1 ⟨σ1, H1, I1, q1⟩ => ih I1 r q1))
theorem ps_asgN {ts : List Expr} {e : Expr} {te : TE} {gs : List TG} {pos : Pos} (he : PE X e te) (hg : PGA X ts gs) (hs : swapsWithSole ts e pos.line X.env = pure false := by rfl) (hw : swappedStores ts e X.env = pure none := by rfl)
    (h1 : (assignEach ts X.env).map (·.2) = ts.map fun e => assign e X.env := by rfl) : PS X (.Assign ts e pos) (tAsg te (gAll gs)) := by
  refine ⟨fun pins s σ H D I h => ?_⟩
  refine wpAny_Assign_stores (thn (he.run pins s σ H _ I h) fun v s1 ⟨x, H1, I1, r1, q1⟩ => ?_) hs hw
  rw [h1]
  exact thn (pga_run hg I1 r1 q1) fun _ s2 q => q
end
end L2
namespace L2.VW
open PySem PySem.Spec PyProof.Rows
section
variable {K : PySem.W.Frag} {F0 : Hp}
/-- a field, set -/
def SetF (f : Str) (v : D) (ds ds' : List (Str × D)) : Prop := ds' = setF f v ds
def kFld (K : PySem.W.Frag) (da : TED) (f : Str) : TGD := fun y env S P => da env S fun x S2 => ∃ a C ds ds', x = .ref a ∧ S2 a = some (.ins C ds) ∧ Cls K C ∧ NoAttr K C f ∧ ds.length < 1000 ∧ SetF f y ds ds' ∧ P env (sup S2 a (.ins C ds'))
instance {ta : TE} {da : TED} {f : Str} [UpE K F0 ta da] : UpG K F0 (gFld K ta f) (kFld K da f) := ⟨fun r0 hv h le =>
  UpE.up (t := ta) (td := da) r0 h fun x S2 F2 H2 v ⟨a, C, ds, ds', e, e1, c, n, hl, es, p⟩ s2 r2 v2 => by
    subst e; cases v2
    obtain ⟨dx, fs, e2, h2, h3⟩ := r2.ins e1
    have kp : KP K F2 fs ds := .of h2 h3
    have kq := kp.putF (f := f) (hv.mono s2)
    rw [show ds' = setF f _ ds from es] at p
    exact ⟨a, C, dx, fs, rfl, e2, c, n, by rw [kp.len]; exact hl, le _ _ _ _ _ p s2 (r0.at s2 (r2.put e1 (.ins kq.keys kq.vals)))⟩⟩
def kAll : List TGD → TGD
  | [] => fun _ env S P => P env S
  | g :: r => fun v env S P => g v env S fun env1 S1 => kAll r v env1 S1 P
instance : UpG K F0 (gAll []) (kAll []) := ⟨fun r0 _ h le => le _ _ _ _ _ h (Same.refl _) r0⟩
instance {g : TG} {gd : TGD} {r : List TG} {rd : List TGD} [UpG K F0 g gd] [UpG K F0 (gAll r) (kAll rd)] : UpG K F0 (gAll (g :: r)) (kAll (gd :: rd)) := ⟨fun r0 hv h le =>
  UpG.up (t := g) (td := gd) r0 hv h fun env1 S1 F1 σ1 H1 h1 s1 r1 => UpG.up (t := gAll r) (td := kAll rd) r1 (hv.mono s1) h1 (le.mono s1)⟩
def yFld (K : PySem.W.Frag) (da dv : TED) (f : Str) : TSD := fun P env S => dv env S fun y S1 => da env S1 fun x S2 => ∃ a C ds ds', x = .ref a ∧ S2 a = some (.ins C ds) ∧ Cls K C ∧ NoAttr K C f ∧ ds.length < 1000 ∧ SetF f y ds ds' ∧ P.nx env (sup S2 a (.ins C ds'))
instance (priority := 1500) {ta tv : TE} {da dv : TED} {f : Str} [UpE K F0 ta da] [UpE K F0 tv dv] : UpS K F0 (sFld K ta tv f) (yFld K da dv f) := ⟨fun r0 h le =>
  UpE.up (t := tv) (td := dv) r0 h fun y S1 F1 H1 u h1 s1 r1 v1 => UpE.up (t := ta) (td := da) (r0.at s1 r1) h1 fun x S2 F2 H2 v ⟨a, C, ds, ds', e, e1, c, n, hl, es, p⟩ s2 r2 v2 => by
    subst e; cases v2
    obtain ⟨dx, fs, e2, h2, h3⟩ := r2.ins e1
    have kp : KP K F2 fs ds := .of h2 h3
    have kq := kp.putF (f := f) (v1.mono s2)
    rw [show ds' = setF f _ ds from es] at p
    exact ⟨a, C, dx, fs, rfl, e2, c, n, by rw [kp.len]; exact hl, le.nx _ _ _ _ _ p (s1.trans s2) ((r0.at (s1.trans s2) (r2.put e1 (.ins kq.keys kq.vals))))⟩⟩
def yFldAug (K : PySem.W.Frag) (da dv : TED) (rd : R2D) (f : Str) : TSD := fun P env S => da env S fun x S1 => ∃ a C ds d, x = .ref a ∧ S1 a = some (.ins C ds) ∧ Cls K C ∧ NoAttr K C f ∧ ds.lookup f = some d ∧
  dv env S1 fun y S2 => rd d y S2 fun z S3 => ∃ ds' ds'', S3 a = some (.ins C ds') ∧ ds'.length < 1000 ∧ SetF f z ds' ds'' ∧ P.nx env (sup S3 a (.ins C ds''))
instance (priority := 1500) {ta tv : TE} {da dv : TED} {r : R2} {rd : R2D} {f : Str} [UpE K F0 ta da] [UpE K F0 tv dv] [UpR K F0 r rd] : UpS K F0 (sFldAug K ta tv r f) (yFldAug K da dv rd f) := ⟨fun r0 h le =>
  UpE.up (t := ta) (td := da) r0 h fun x S1 F1 H1 v ⟨a, C, ds, d, e, e1, c, n, l, h1⟩ s1 r1 v1 => by
    subst e; cases v1
    obtain ⟨dx, fs, e2, h2, h3⟩ := r1.ins e1
    have kp : KP K F1 fs ds := .of h2 h3
    obtain ⟨w, lw, hw⟩ := kp.lookup l
    refine ⟨a, C, dx, fs, w, rfl, e2, c, n, lw, UpE.up (t := tv) (td := dv) (r0.at s1 r1) h1 fun y S2 F2 H2 u h4 s2 r2 v2 => UpR.up (r := r) (rd := rd) r2 (hw.mono s2) v2 h4 fun z S3 F3 H3 q ⟨ds', ds'', e3, hl, es, p⟩ s3 r3 v3 => ?_⟩
    obtain ⟨dx', fs', e4, h5, h6⟩ := r3.ins e3
    have kp' : KP K F3 fs' ds' := .of h5 h6
    have kq := kp'.putF (f := f) v3
    rw [show ds'' = setF f _ ds' from es] at p
    exact ⟨dx', fs', e4, by rw [kp'.len]; exact hl, le.nx _ _ _ _ _ p ((s1.trans s2).trans s3) (r0.at ((s1.trans s2).trans s3) (r3.put e3 (.ins kq.keys kq.vals)))⟩⟩
/-! ### an object that is told: data from here on -/
inductive Frz (P : PV) (x : D) (S : Sto) : Prop
  | mk (a C : Addr) (ds : List (Str × D)) : x = .ref a → S a = some (.ins C ds) → P (.ins C ds) (sdel S a) → Frz P x S
theorem body_frz {N : List Str} {t : TS} {td : TSD} {F : Hp} {S : Sto} {H : Hp} {vs : List V} {ds : List D} {P : PV} {Q : VK} [UpS K F t td] (r : RelH K F F S H) (hv : VdAll K F vs ds) (le : LeV K F F P Q)
    (h : td { nx := fun _ S' => P .non S', rt := Frz P } (ds.map some ++ List.replicate (N.length - ds.length) none) S) : t { nx := fun _ H' => Q .non H', rt := Q } (start N vs) H := by
  refine UpS.up (t := t) (td := td) (F0 := F) ⟨r, ?_⟩ h ⟨fun _ _ _ _ _ p s r1 => le _ _ _ _ _ p s r1.h .non, fun x S' F' H' v p s r1 vd => ?_, fun _ _ _ _ _ p => p.elim, fun _ _ _ _ _ p => p.elim⟩
  · unfold start
    rw [hv.len]
    exact starts hv
  · obtain ⟨a, C, fd, rfl, e1, p⟩ := p
    cases vd
    obtain ⟨dx, fs, e2, h2, h3⟩ := r1.ins e1
    obtain ⟨s2, r2⟩ := r1.keep e1 e2
    exact le _ _ _ _ _ p (s.trans s2) r2 (.ins upd_same h2 (h3.mono s2))
/-- .. and the objects that the body made itself need not be told of -/
theorem body_frzL {N : List Str} {t : TS} {td : TSD} {F : Hp} {S : Sto} {H : Hp} {vs : List V} {ds : List D} {P : PV} {Q : VK} [UpS K F t td] (r : RelH K F F S H) (hv : VdAll K F vs ds) (le : LeV K F F P Q)
    (h : td { nx := fun _ S' => Lss P .non S', rt := Frz (Lss P) } (ds.map some ++ List.replicate (N.length - ds.length) none) S) : t { nx := fun _ H' => Q .non H', rt := Q } (start N vs) H :=
  body_frz (P := Lss P) r hv (fun _ _ _ _ _ p s r1 v => by obtain ⟨S2, h2, p⟩ := p; exact le _ _ _ _ _ p s (r1.less h2) v) h
end
end L2.VW

/-! ## list(enumerate(xs)), list(zip(xs, ys)): a new list of new tuples -/
namespace LZ
open PySem PySem.Spec PyProof.Rows L2
/-- an iterator whose n items are new pairs, while at S a list is being filled -/
structure TSrc (P : Program) (w : World) (A : Around) (I S : Addr) (wr : List Addr) (n : Nat) (Rel : Nat → Value → Value → Prop) (St : Nat → Heap → Prop) : Prop where
  off : S ∉ wr
  low : ∀ b ∈ wr, b < S
  frame : ∀ i h h', St i h → (∀ b o, b ≠ S → h.get? b = some o → h'.get? b = some o) → St i h'
  item : ∀ i (s : Shared) (Q : Option Value → Shared → Prop) (E : Value → Shared → Prop), i < n → St i s.heap → S < s.heap.objs.size →
    (∀ k v h' tk, Rel i k v → h'.get? s.heap.objs.size = some { cls := .type "tuple", data := .seq #[k, v] } → St (i + 1) h' → (∀ b o, b ∉ wr → s.heap.get? b = some o → h'.get? b = some o) → Q (some (.ref s.heap.objs.size)) { s with heap := h', toks := tk }) →
    wpAny (model P w) A (pyNext (.ref I)) Q E s
  done : ∀ (s : Shared) (Q : Option Value → Shared → Prop) (E : Value → Shared → Prop), St n s.heap →
    (∀ h' tk, (∀ b o, b ∉ wr → s.heap.get? b = some o → h'.get? b = some o) → Q none { s with heap := h', toks := tk }) → wpAny (model P w) A (pyNext (.ref I)) Q E s
/-- the tuples given out so far -/
structure TG (Rel : Nat → Value → Value → Prop) (S : Addr) (h : Heap) (as : List Addr) : Prop where
  rise : as.Pairwise (· < ·)
  above : ∀ a ∈ as, S < a
  pairs : ∀ (j : Nat) (a : Addr), as[j]? = some a → ∃ k v, Rel j k v ∧ h.get? a = some { cls := .type "tuple", data := .seq #[k, v] }
theorem TG.there {Rel : Nat → Value → Value → Prop} {S : Addr} {h : Heap} {as : List Addr} (g : TG Rel S h as) {a : Addr} (ha : a ∈ as) : a < h.objs.size := by
  obtain ⟨j, hj⟩ := List.mem_iff_getElem?.mp ha
  obtain ⟨_, _, _, e⟩ := g.pairs j a hj
  exact Heap.lt_size e
section
variable {P : Program} {w : World} {A : Around} {s : Shared} {R : Result → Shared → Prop} {I S : Addr} {wr : List Addr} {n : Nat} {Rel : Nat → Value → Value → Prop} {St : Nat → Heap → Prop}
theorem loop (T : TSrc P w A.in1 I S wr n Rel St) (hn : n ≤ sizeLine) (res : Value) {h₁ : Heap}
    (hR : ∀ h' tk acc c as, (∀ b o, b ≠ S → b ∉ wr → h₁.get? b = some o → h'.get? b = some o) → h'.get? S = some { cls := .type "list", dict := none, data := .seq acc c, slots := #[] } → as.length = n → TG Rel S h' as →
      acc.toList = as.map Value.ref → R (.ok (.ret res)) { s with heap := h', toks := tk }) :
    ∀ (k i : Nat) (h : Heap) (tk c : Nat) (acc : Array Value) (as : List Addr), n - i = k → i ≤ n → St i h → (∀ b o, b ≠ S → b ∉ wr → h₁.get? b = some o → h.get? b = some o) →
      h.get? S = some { cls := .type "list", dict := none, data := .seq acc c, slots := #[] } → acc.toList = as.map Value.ref → as.length = i → TG Rel S h as →
      codeAny (model P w) A (.builtin "list.extend.loop" ⟨[.ref S, .ref I, res], []⟩) R { s with heap := h, toks := tk } := by
  intro k
  induction k with
  | zero =>
    intro i h tk c acc as hk hi hst hkeep hS hacc hal hG
    have hin : i = n := by omega
    subst hin
    refine codeAny_builtin PySem.F.entry_extend_loop ?_
    rw [Around.under_plainId PySem.F.plain_extend_loop _]
    show wpAny _ A.in1 (pyNext (.ref I) >>= _) _ _ _
    refine wpAny_bind (T.done { s with heap := h, toks := tk } _ _ hst fun h' tk' he => ?_)
    have nw : ∀ a ∈ as, a ∉ wr := fun a ha z => Nat.lt_asymm (T.low a z) (hG.above a ha)
    refine wpAny_pure (hR h' tk' acc c as (fun b o h1 h2 e => he b o h2 (hkeep b o h1 h2 e)) (he S _ T.off hS) hal ⟨hG.rise, hG.above, fun j a hj => ?_⟩ hacc)
    obtain ⟨k, v, e1, e2⟩ := hG.pairs j a hj
    exact ⟨k, v, e1, he a _ (nw a (List.mem_of_getElem? hj)) e2⟩
  | succ k ih =>
    intro i h tk c acc as hk hi hst hkeep hS hacc hal hG
    have hlt : i < n := by omega
    have hsz : acc.size = i := by rw [← Array.length_toList, hacc, List.length_map, hal]
    have hSl : S < h.objs.size := Heap.lt_size hS
    refine codeAny_builtin PySem.F.entry_extend_loop ?_
    rw [Around.under_plainId PySem.F.plain_extend_loop _]
    show wpAny _ A.in1 (pyNext (.ref I) >>= _) _ _ _
    refine wpAny_bind (T.item i { s with heap := h, toks := tk } _ _ hlt hst hSl fun k v h' tk' hrel ht hst' hkp => ?_)
    dsimp only at ht hkp ⊢
    have hS' := hkp S _ T.off hS
    have up : ∀ b o, b ≠ S → h'.get? b = some o → (h'.update S (Obj.mapSeq (·.push (Value.ref h.objs.size)))).get? b = some o := fun b o hb e => (Heap.get?_update_other _ _ (Ne.symm hb)).trans e
    show wpAny _ A.in1 (updateSeq S (·.push (Value.ref h.objs.size)) >>= _) _ _ _
    refine wpAny_bind ?_
    refine wpAny_updateSeq hS' rfl (wpAny_pure ⟨plainId_quiet PySem.F.plain_extend_loop _, ih (i + 1) _ tk' _ (acc.push (Value.ref h.objs.size)) (as ++ [h.objs.size]) (by omega) hlt (T.frame _ _ _ hst' up)
      (fun b o h1 h2 e => up b o h1 (hkp b o h2 (hkeep b o h1 h2 e))) (Heap.get?_update_self _ hS' rfl) (by rw [Array.toList_push, hacc, List.map_append]; rfl) (by rw [List.length_append, hal]; rfl) ⟨?_, ?_, ?_⟩⟩) (by rw [hsz]; omega) (by show (acc.push (Value.ref h.objs.size)).size ≤ sizeLine + 1; rw [Array.size_push, hsz]; omega)
    · refine List.pairwise_append.mpr ⟨hG.rise, List.pairwise_singleton _ _, fun a ha b hb => ?_⟩
      rw [List.mem_singleton.mp hb]
      exact hG.there ha
    · intro a ha
      rcases List.mem_append.mp ha with ha | ha
      · exact hG.above a ha
      · rw [List.mem_singleton.mp ha]; exact hSl
    · intro j b hj
      rcases Nat.lt_trichotomy j as.length with h1 | h1 | h1
      · rw [List.getElem?_append_left h1] at hj
        obtain ⟨k', v', e1, e2⟩ := hG.pairs j b hj
        have hb := hG.above b (List.mem_of_getElem? hj)
        exact ⟨k', v', e1, up b _ (Nat.ne_of_gt hb) (hkp b _ (fun z => Nat.lt_asymm (T.low b z) hb) e2)⟩
      · subst h1
        have hb : h.objs.size = b := by simpa using hj
        subst hb
        exact ⟨k, v, by rw [hal]; exact hrel, up _ _ (Nat.ne_of_gt hSl) ht⟩
      · have hnone : (as ++ [h.objs.size])[j]? = none := List.getElem?_eq_none (by rw [List.length_append, List.length_singleton]; omega)
        rw [hnone] at hj; cases hj
end
/-- an argument of list(..) that gives such an iterator: its type knows no length -/
structure TArg (P : Program) (w : World) (T : String) (a : Addr) (wr : List Addr) (n : Nat) (Rel : Nat → Value → Value → Prop) (OK : Heap → Prop) : Prop where
  type : ∀ s : Shared, OK s.heap → s.TypeIs (.ref a) T
  keep : ∀ h h', OK h → (∀ b o, h.get? b = some o → h'.get? b = some o) → OK h'
  low : ∀ h, OK h → (∀ b ∈ wr, b < h.objs.size) ∧ a < h.objs.size
  iter : ∀ (A : Around) (s : Shared) (Q : Value → Shared → Prop) (E : Value → Shared → Prop), OK s.heap → Q (.ref a) s → wpAny (model P w) A (pyIter (.ref a)) Q E s
  src : ∀ (A : Around) (S : Addr), A.handled = none → (∀ b ∈ wr, b < S) → ∃ St, TSrc P w A a S wr n Rel St ∧ ∀ h h', OK h → S = h.objs.size → (∀ b o, h.get? b = some o → h'.get? b = some o) → St 0 h'
  nl : (Value.type T == Value.type "list") = false
  nt : (Value.type T == Value.type "tuple") = false
  noLen : typeLookup (.type T) "__len__" = pure none
  noHint : typeLookup (.type T) "__length_hint__" = pure none
theorem call_list {P : Program} {w : World} {A : Around} {E : Value → Shared → Prop} {s : Shared} {Q : Value → Shared → Prop} {T : String} {a : Addr} {wr : List Addr} {n : Nat} {Rel : Nat → Value → Value → Prop} {OK : Heap → Prop} (G : TArg P w T a wr n Rel OK)
    (hh : A.handled = none) (ok : OK s.heap) (hn : n ≤ sizeLine)
    (hQ : ∀ h' tk acc c as, (∀ b o, b ∉ wr → s.heap.get? b = some o → h'.get? b = some o) → h'.get? s.heap.objs.size = some { cls := .type "list", dict := none, data := .seq acc c, slots := #[] } → as.length = n → TG Rel s.heap.objs.size h' as →
      acc.toList = as.map Value.ref → Q (.ref s.heap.objs.size) { s with heap := h', toks := tk }) :
    wpAny (model P w) A (call (.type "list") [.ref a]) Q E s := by
  obtain ⟨hwr, haS⟩ := G.low _ ok
  have hSa : s.heap.objs.size ≠ a := Nat.ne_of_gt haS
  refine callType_codes (Q₁ := fun obj s₁ => obj = .ref s.heap.objs.size ∧ s₁ = { s with heap := s.heap.push { cls := .type "list", data := .seq #[] } }) F.called_list (F.typeCall_list_1 _) F.entry_list_init
    (code_list_new _ ⟨rfl, rfl⟩) fun obj s₁ h₁ => ?_
  obtain ⟨rfl, rfl⟩ := h₁
  have hS : (s.heap.push { cls := .type "list", data := .seq #[] }).get? s.heap.objs.size = some { cls := .type "list", data := .seq #[] } := Heap.get?_push_size _ rfl
  refine ⟨⟨_, hS, rfl⟩, F.args_list_init_2 _ _, ?_⟩
  show wpAny _ A.in1.in1 (do let old ← Builtin.List.listItems (.ref s.heap.objs.size); Builtin.List.listUpdate (.ref s.heap.objs.size) (fun _ => #[]); letGo old.toList.reverse; Builtin.List.listExtendWith (.ref s.heap.objs.size) (.ref a) .none) _ _ _
  refine wpAny_bind ?_
  unfold Builtin.List.listItems
  refine wpAny_bind (wpAny_seqItems hS rfl (wpAny_pure ?_))
  show wpAny _ A.in1.in1 (updateSeq s.heap.objs.size (fun _ => #[]) >>= fun _ => letGo (#[] : Array Value).toList.reverse >>= fun _ => Builtin.List.listExtendWith (.ref s.heap.objs.size) (.ref a) .none) _ _ _
  refine wpAny_bind (wpAny_updateSeq hS rfl ?_)
  have hS2 := Heap.get?_update_self (Obj.mapSeq (fun _ => (#[] : Array Value))) hS rfl
  refine wpAny_bind (wpAny_letGo ?_)
  unfold Builtin.List.listExtendWith
  have up : ∀ (h : Heap) (f : Obj → Obj), (∀ b o, s.heap.get? b = some o → h.get? b = some o) → ∀ b o, s.heap.get? b = some o → (h.update s.heap.objs.size f).get? b = some o := fun h f q b o e =>
    (Heap.get?_update_other _ _ (Ne.symm (Nat.ne_of_lt (Heap.lt_size e)))).trans (q b o e)
  have k1 : ∀ b o, s.heap.get? b = some o → (s.heap.push { cls := .type "list", data := .seq #[] }).get? b = some o := fun b o e => Heap.get?_push_of_some _ e
  have k2 := up _ (Obj.mapSeq (fun _ => (#[] : Array Value))) k1
  refine wpAny_bind (wpAny_typeOf (G.type { s with heap := _ } (G.keep _ _ ok k2)) ?_)
  have h1 : Builtin.List.listSameRef (.ref s.heap.objs.size) (.ref a) = false := by simp [Builtin.List.listSameRef, hSa]
  simp only [h1, G.nl, G.nt, Bool.or_false, Bool.false_eq_true, if_false]
  refine wpAny_bind (G.iter _ { s with heap := _ } _ _ (G.keep _ _ ok k2) ?_)
  refine wpAny_bind (wpAny_holding ?_)
  unfold Builtin.List.listLengthHint
  refine wpAny_bind (wpAny_specialOf (G.type { s with heap := _ } (G.keep _ _ ok k2)) G.noLen ?_)
  show wpAny _ A.in1.in1 (specialOf (Value.ref a) (Str.ofString "__length_hint__") >>= _) _ _ _
  refine wpAny_bind (wpAny_specialOf (G.type { s with heap := _ } (G.keep _ _ ok k2)) G.noHint ?_)
  refine wpAny_pure ?_
  show wpAny _ A.in1.in1 (rule "list.extend.makes-room" >>= fun _ => Builtin.List.listTouch (.ref s.heap.objs.size) >>= fun _ =>
    again (.builtin "list.extend.loop" ⟨[.ref s.heap.objs.size, .ref a, .none], []⟩)) _ _ _
  refine wpAny_bind (wpAny_rule ?_)
  refine wpAny_bind ?_
  show wpAny _ A.in1.in1 (updateSeq s.heap.objs.size (·.push .none) >>= fun _ => updateSeq s.heap.objs.size (·.pop)) _ _ _
  refine wpAny_bind (wpAny_updateSeq hS2 rfl ?_)
  have hS3 := Heap.get?_update_self (Obj.mapSeq (·.push Value.none)) hS2 rfl
  refine wpAny_updateSeq (hz := by seq_fits) hS3 rfl ?_
  have hS4 := Heap.get?_update_self (Obj.mapSeq (·.pop)) hS3 rfl
  have k4 := up _ (Obj.mapSeq (·.pop)) (up _ (Obj.mapSeq (·.push Value.none)) k2)
  refine wpAny_pure ⟨plainId_quiet F.plain_extend_loop _, ?_⟩
  obtain ⟨St, src, st0⟩ := G.src A.in1.in1 s.heap.objs.size hh hwr
  refine loop (s := s) (h₁ := s.heap) src hn .none (fun h' tk acc c as q1 q2 q3 q4 q5 => ?_) n 0 _ s.toks _ #[] [] (Nat.sub_zero _) (Nat.zero_le _) (st0 _ _ ok rfl k4) (fun b o _ _ e => k4 b o e) hS4 rfl rfl
    ⟨List.Pairwise.nil, (fun _ ha => nomatch ha), (fun j a hj => by simp at hj)⟩
  exact ⟨rfl, hQ h' tk acc c as (fun b o hb e => q1 b o (Nat.ne_of_lt (Heap.lt_size e)) hb e) q2 q3 q4 q5⟩
theorem enum_no_len : typeLookup (.type "enumerate") "__len__" = pure none := by rw [typeLookup_type, builtinLookup_eq_fast]; kernel_rfl
theorem enum_no_hint : typeLookup (.type "enumerate") "__length_hint__" = pure none := by rw [typeLookup_type, builtinLookup_eq_fast]; kernel_rfl
theorem zip_no_len : typeLookup (.type "zip") "__len__" = pure none := by rw [typeLookup_type, builtinLookup_eq_fast]; kernel_rfl
theorem zip_no_hint : typeLookup (.type "zip") "__length_hint__" = pure none := by rw [typeLookup_type, builtinLookup_eq_fast]; kernel_rfl
theorem enum_arg {P : Program} {w : World} (e it l : Addr) (hei : e ≠ it) (hle : l ≠ e) (hli : l ≠ it) (items : Array Value) :
    TArg P w "enumerate" e [e, it] items.size (fun i k v => (∃ t, k = .int i t) ∧ items[i]? = some v) (fun h => (∃ old, IsEnum h e it 0 old) ∧ h.IsListIter it l 0 ∧ h.IsList l items) where
  type := fun s ok => let ⟨⟨_, he⟩, _⟩ := ok; ⟨_, he, rfl⟩
  keep := fun h h' ok hk => by
    obtain ⟨⟨old, he⟩, hit, hl⟩ := ok
    exact ⟨⟨old, hk _ _ he⟩, hit.at fun o x => hk _ o x, hl.at fun o x => hk _ o x⟩
  low := fun h ok => by
    obtain ⟨⟨old, he⟩, ⟨o1, h1, _⟩, ⟨o2, h2, _⟩⟩ := ok
    refine ⟨fun b hb => ?_, Heap.lt_size he⟩
    simp only [List.mem_cons, List.not_mem_nil, or_false] at hb
    rcases hb with rfl | rfl
    · exact Heap.lt_size he
    · exact Heap.lt_size h1
  iter := fun A s Q E ok h => let ⟨⟨_, he⟩, _⟩ := ok; wpAny_pyIter_enum he h
  nl := by decide
  nt := by decide
  noLen := enum_no_len
  noHint := enum_no_hint
  src := fun A S hA hwr => by
    have de : S ≠ e := Nat.ne_of_gt (hwr e (by simp))
    have dit : S ≠ it := Nat.ne_of_gt (hwr it (by simp))
    refine ⟨fun i h => l ≠ S ∧ h.IsListIter it l i ∧ h.IsList l items ∧ ((∃ old, IsEnum h e it i old) ∨ ∃ old T f oT, IsEnumHeld h e it i old T f ∧ h.get? T = some oT ∧ T ≠ e ∧ T ≠ it ∧ T ≠ S), ?_, fun h h' ok eS k => ?_⟩
    · exact {
      off := fun hm => by
        simp only [List.mem_cons, List.not_mem_nil, or_false] at hm
        rcases hm with x | x
        · exact de x
        · exact dit x
      low := hwr
      frame := fun i h₁ h₂ st hk => by
        obtain ⟨dl, hit, hl, he⟩ := st
        refine ⟨dl, hit.at fun o x => hk _ o (Ne.symm dit) x, hl.at fun o x => hk _ o dl x, ?_⟩
        rcases he with ⟨old, he⟩ | ⟨old, T, f, oT, he, hT, r1, r2, r3⟩
        · exact .inl ⟨old, hk _ _ (Ne.symm de) he⟩
        · exact .inr ⟨old, T, f, oT, hk _ _ (Ne.symm de) he, hk _ _ r3 hT, r1, r2, r3⟩
      item := fun i s₁ Q₁ E₁ hi st hds hQ => by
        obtain ⟨dl, hit, hl, he⟩ := st
        have ex := Array.getElem?_eq_getElem hi
        have ec : ((i + 1 : Nat) : Int) = (i : Int) + 1 := by omega
        have nit : s₁.heap.objs.size ≠ it := let ⟨_, x, _⟩ := hit; Nat.ne_of_gt (Heap.lt_size x)
        rcases he with ⟨old, he⟩ | ⟨old, T, f, oT, he, hT, r1, r2, r3⟩
        · refine wpAny_pyNext_enum_item he hit hl ex hei fun h' ho hit' hT hsz hk => ?_
          exact hQ _ _ h' (s₁.toks + 1) ⟨⟨_, rfl⟩, ex⟩ hT
            ⟨dl, hit', hl.at fun o x => hk l o hle hli x, .inr ⟨_, s₁.heap.objs.size, false, _, (by rw [ec]; exact ho), hT, Nat.ne_of_gt (Heap.lt_size he), nit, Nat.ne_of_gt hds⟩⟩
            fun b o hb x => hk b o (fun y => hb (by simp [y])) (fun y => hb (by simp [y])) x
        · refine wpAny_pyNext_enum_item_held he hT r1 r2 hit hl ex hei fun h' ho hit' hT' hsz hk => ?_
          exact hQ _ _ h' (s₁.toks + 1) ⟨⟨_, rfl⟩, ex⟩ hT'
            ⟨dl, hit', hl.at fun o x => hk l o hle hli x, .inr ⟨old, T, true, oT, (by rw [ec]; exact ho), hk _ _ r1 r2 hT, r1, r2, r3⟩⟩
            fun b o hb x => hk b o (fun y => hb (by simp [y])) (fun y => hb (by simp [y])) x
      done := fun s₁ Q₁ E₁ st hQ => by
        obtain ⟨dl, hit, hl, he⟩ := st
        have hx : items[items.size]? = none := Array.getElem?_eq_none (Nat.le_refl _)
        rcases he with ⟨old, he⟩ | ⟨old, T, f, oT, he, hT, r1, r2, r3⟩
        · exact wpAny_pyNext_enum_end hA he hit hl hx fun h' hk => hQ h' s₁.toks fun b o hb x => hk b o (fun y => hb (by simp [y])) x
        · exact wpAny_pyNext_enum_end_held hA he hit hl hx fun h' hk => hQ h' s₁.toks fun b o hb x => hk b o (fun y => hb (by simp [y])) x }
    · obtain ⟨⟨old, he⟩, hit, hl⟩ := ok
      exact ⟨by obtain ⟨_, z, _⟩ := hl; rw [eS]; exact Nat.ne_of_lt (Heap.lt_size z), hit.at fun o x => k _ o x, hl.at fun o x => k _ o x, .inl ⟨old, k _ _ he⟩⟩
theorem zip_arg {P : Program} {w : World} (z TI TO i1 i2 l1 l2 : Addr) (D : ZipApart z TI TO i1 i2 l1 l2) (xs ys : Array Value) :
    TArg P w "zip" z [z, TO, i1, i2] (min xs.size ys.size) (fun i k v => xs[i]? = some k ∧ ys[i]? = some v)
      (fun h => IsZip h z TI TO .none ∧ IsPair h TI (.ref i1) (.ref i2) ∧ (∃ a b, IsPair h TO a b) ∧ h.IsListIter i1 l1 0 ∧ h.IsListIter i2 l2 0 ∧ h.IsList l1 xs ∧ h.IsList l2 ys) where
  type := fun s ok => ⟨_, ok.1, rfl⟩
  keep := fun h h' ok hk => by
    obtain ⟨hz, hTI, ⟨a, b, hTO⟩, h1, h2, hl1, hl2⟩ := ok
    exact ⟨hk _ _ hz, hk _ _ hTI, ⟨a, b, hk _ _ hTO⟩, h1.at fun o e => hk _ o e, h2.at fun o e => hk _ o e, hl1.at fun o e => hk _ o e, hl2.at fun o e => hk _ o e⟩
  low := fun h ok => by
    obtain ⟨hz, hTI, ⟨a, c, hTO⟩, ⟨o1, h1, _⟩, ⟨o2, h2, _⟩, ⟨o3, hl1, _⟩, ⟨o4, hl2, _⟩⟩ := ok
    refine ⟨fun b hb => ?_, Heap.lt_size hz⟩
    simp only [List.mem_cons, List.not_mem_nil, or_false] at hb
    rcases hb with rfl | rfl | rfl | rfl
    all_goals first | exact Heap.lt_size hz | exact Heap.lt_size hTO | exact Heap.lt_size h1 | exact Heap.lt_size h2
  iter := fun A s Q E ok h => wpAny_pyIter_zip ok.1 h
  nl := by decide
  nt := by decide
  noLen := zip_no_len
  noHint := zip_no_hint
  src := fun A S hA hwr => by
    have dz : S ≠ z := Nat.ne_of_gt (hwr z (by simp))
    have dTO : S ≠ TO := Nat.ne_of_gt (hwr TO (by simp))
    have di1 : S ≠ i1 := Nat.ne_of_gt (hwr i1 (by simp))
    have di2 : S ≠ i2 := Nat.ne_of_gt (hwr i2 (by simp))
    refine ⟨fun i h => (TI ≠ S ∧ l1 ≠ S ∧ l2 ≠ S) ∧ IsPair h TI (.ref i1) (.ref i2) ∧ h.IsListIter i1 l1 i ∧ h.IsListIter i2 l2 i ∧ h.IsList l1 xs ∧ h.IsList l2 ys ∧
      ((IsZip h z TI TO .none ∧ ∃ a b, IsPair h TO a b) ∨ ∃ T f oT, IsZipHeld h z TI TO T f ∧ h.get? T = some oT ∧ T ≠ z ∧ T ≠ i1 ∧ T ≠ i2 ∧ T ≠ S), ?_, fun h h' ok eS k => ?_⟩
    · exact {
      off := fun hm => by
        simp only [List.mem_cons, List.not_mem_nil, or_false] at hm
        rcases hm with e | e | e | e
        · exact dz e
        · exact dTO e
        · exact di1 e
        · exact di2 e
      low := hwr
      frame := fun i h₁ h₂ st hk => by
        obtain ⟨⟨dTI, dl1, dl2⟩, hTI, h1, h2, hl1, hl2, hz⟩ := st
        refine ⟨⟨dTI, dl1, dl2⟩, hk _ _ dTI hTI, h1.at fun o e => hk _ o (Ne.symm di1) e, h2.at fun o e => hk _ o (Ne.symm di2) e, hl1.at fun o e => hk _ o dl1 e, hl2.at fun o e => hk _ o dl2 e, ?_⟩
        rcases hz with ⟨hz, a, b, hTO⟩ | ⟨T, f, oT, hz, hT, r1, r2, r3, r4⟩
        · exact .inl ⟨hk _ _ (Ne.symm dz) hz, a, b, hk _ _ (Ne.symm dTO) hTO⟩
        · exact .inr ⟨T, f, oT, hk _ _ (Ne.symm dz) hz, hk _ _ r4 hT, r1, r2, r3, r4⟩
      item := fun i s₁ Q₁ E₁ hi st hds hQ => by
        obtain ⟨hne, hTI, h1, h2, hl1, hl2, hz⟩ := st
        have hix : i < xs.size := Nat.lt_of_lt_of_le hi (Nat.min_le_left ..)
        have hiy : i < ys.size := Nat.lt_of_lt_of_le hi (Nat.min_le_right ..)
        have ex := Array.getElem?_eq_getElem hix
        have ey := Array.getElem?_eq_getElem hiy
        have lt : ∀ {c o}, s₁.heap.get? c = some o → s₁.heap.objs.size ≠ c := fun e => Nat.ne_of_gt (Heap.lt_size e)
        have n1 : s₁.heap.objs.size ≠ i1 := let ⟨_, e, _⟩ := h1; lt e
        have n2 : s₁.heap.objs.size ≠ i2 := let ⟨_, e, _⟩ := h2; lt e
        rcases hz with ⟨hz, a, b, hTO⟩ | ⟨T, f, oT, hz, hT, r1, r2, r3, r4⟩
        · refine wpAny_pyNext_zip_item D hz hTI hTO h1 h2 hl1 hl2 ex ey fun h' a1 a2 a3 a4 a5 a6 hk => ?_
          exact hQ _ _ h' s₁.toks ⟨ex, ey⟩ a5
            ⟨hne, hk _ _ D.TIz D.TITO D.TIi1 D.TIi2 hTI, a3, a4, hl1.at fun o e => hk _ o D.l1z D.l1TO D.l1i1 D.l1i2 e, hl2.at fun o e => hk _ o D.l2z D.l2TO D.l2i1 D.l2i2 e,
              .inr ⟨s₁.heap.objs.size, false, _, a1, a5, lt hz, n1, n2, Nat.ne_of_gt hds⟩⟩
            fun c o hc e => hk c o (fun x => hc (by simp [x])) (fun x => hc (by simp [x])) (fun x => hc (by simp [x])) (fun x => hc (by simp [x])) e
        · refine wpAny_pyNext_zip_item_held D hz hT hTI h1 h2 hl1 hl2 ex ey fun h' a1 a3 a4 a5 a6 hk => ?_
          exact hQ _ _ h' s₁.toks ⟨ex, ey⟩ a5
            ⟨hne, hk _ _ D.TIz D.TIi1 D.TIi2 hTI, a3, a4, hl1.at fun o e => hk _ o D.l1z D.l1i1 D.l1i2 e, hl2.at fun o e => hk _ o D.l2z D.l2i1 D.l2i2 e,
              .inr ⟨T, true, oT, a1, hk _ _ r1 r2 r3 hT, r1, r2, r3, r4⟩⟩
            fun c o hc e => hk c o (fun x => hc (by simp [x])) (fun x => hc (by simp [x])) (fun x => hc (by simp [x])) e
      done := fun s₁ Q₁ E₁ st hQ => by
        obtain ⟨hne, hTI, h1, h2, hl1, hl2, hz⟩ := st
        have hend : xs[min xs.size ys.size]? = none ∨ ys[min xs.size ys.size]? = none := by
          rcases Nat.le_total xs.size ys.size with h | h
          · exact .inl (Array.getElem?_eq_none (by rw [Nat.min_eq_left h]; exact Nat.le_refl _))
          · exact .inr (Array.getElem?_eq_none (by rw [Nat.min_eq_right h]; exact Nat.le_refl _))
        rcases hz with ⟨hz, a, b, hTO⟩ | ⟨T, f, oT, hz, hT, r1, r2, r3, r4⟩
        · exact wpAny_pyNext_zip_end hA D hz hTI hTO h1 h2 hl1 hl2 hend fun h' hk => hQ h' s₁.toks fun c o hc e => hk c o (fun x => hc (by simp [x])) (fun x => hc (by simp [x])) (fun x => hc (by simp [x])) (fun x => hc (by simp [x])) e
        · exact wpAny_pyNext_zip_end_held hA D hz hT hTI h1 h2 hl1 hl2 hend fun h' hk => hQ h' s₁.toks fun c o hc e => hk c o (fun x => hc (by simp [x])) (fun x => hc (by simp [x])) (fun x => hc (by simp [x])) e }
    · obtain ⟨hz, hTI, ⟨a, b, hTO⟩, h1, h2, hl1, hl2⟩ := ok
      have lt : ∀ {c o}, h.get? c = some o → c ≠ S := fun e => by rw [eS]; exact Nat.ne_of_lt (Heap.lt_size e)
      exact ⟨⟨lt hTI, (let ⟨_, x, _⟩ := hl1; lt x), (let ⟨_, x, _⟩ := hl2; lt x)⟩, k _ _ hTI, h1.at fun o x => k _ o x, h2.at fun o x => k _ o x, hl1.at fun o x => k _ o x, hl2.at fun o x => k _ o x, .inl ⟨k _ _ hz, a, b, k _ _ hTO⟩⟩

/-- the tuples tracked at their addresses -/
def putT : Hp → List Addr → List (V × V) → Hp
  | H, a :: as, p :: kvs => putT (upd H a (.tup [p.1, p.2])) as kvs
  | H, _, _ => H
theorem putT_off {b : Addr} : ∀ (as : List Addr) (kvs : List (V × V)) (H : Hp), b ∉ as → putT H as kvs b = H b
  | [], _, _, _ => rfl
  | _ :: _, [], _, _ => rfl
  | a :: as, p :: kvs, H, h => by
    show putT (upd H a (.tup [p.1, p.2])) as kvs b = H b
    rw [putT_off as kvs _ (fun z => h (List.mem_cons_of_mem _ z)), upd_ne (fun z => h (by rw [z]; exact List.mem_cons_self))]
theorem putT_at : ∀ (as : List Addr) (kvs : List (V × V)) (H : Hp), as.length = kvs.length → as.Nodup → Paired (fun (t : Addr) (p : V × V) => putT H as kvs t = some (.tup [p.1, p.2])) as kvs
  | [], [], _, _, _ => .nil
  | [], _ :: _, _, h, _ => by cases h
  | _ :: _, [], _, h, _ => by cases h
  | a :: as, p :: kvs, H, h, hn => by
    have hn' := List.nodup_cons.mp hn
    have ih := putT_at as kvs (upd H a (.tup [p.1, p.2])) (Nat.succ.inj h) hn'.2
    refine .cons ?_ ih
    show putT (upd H a (.tup [p.1, p.2])) as kvs a = some (.tup [p.1, p.2])
    rw [putT_off as kvs _ hn'.1, upd_same]
/-- what a new list of new pairs is -/
def NewPs (H H' : Hp) (p : Addr) (ts : List Addr) (kvs : List (V × V)) : Prop :=
  (∀ b o, H b = some o → H' b = some o) ∧ H p = none ∧ (∀ t ∈ ts, H t = none) ∧ p ∉ ts ∧ H' p = some (.lst (ts.map V.ref)) ∧ Paired (fun (t : Addr) (q : V × V) => H' t = some (.tup [q.1, q.2])) ts kvs
section
variable {X : Cx}
theorem laid {pins : List (Addr × Obj)} {σ : L2.St} {H : Hp} {s : Shared} {h' : Heap} {tk : Nat} {kvs : List (V × V)} {Rel : Nat → Value → Value → Prop} {S : Addr} {acc : Array Value} {c : Nat} {as : List Addr} (I : Inv X pins σ H s) (hz : kvs.length ≤ sizeLine)
    (kv : ∀ i k v, Rel i k v → i < kvs.length → ∃ p, kvs[i]? = some p ∧ RelV p.1 k ∧ RelV p.2 v) (hk : ∀ b o, s.heap.get? b = some o → h'.get? b = some o) (hSl : s.heap.objs.size ≤ S)
    (hS : h'.get? S = some { cls := .type "list", dict := none, data := .seq acc c, slots := #[] }) (hl : as.length = kvs.length) (hG : TG Rel S h' as) (hacc : acc.toList = as.map Value.ref) :
    ∃ H' : Hp, NewPs H H' S as kvs ∧ Inv X pins σ H' { s with heap := h', toks := tk } := by
  have hSn : S ∉ as := fun z => Nat.lt_irrefl _ (hG.above _ z)
  have nd : as.Nodup := List.Pairwise.imp (fun {a b} (h : a < b) => Nat.ne_of_lt h) hG.rise
  have new : ∀ t ∈ as, H t = none := fun t ht => I.hok.fresh (Nat.le_trans hSl (Nat.le_of_lt (hG.above t ht)))
  have newS : H S = none := I.hok.fresh hSl
  have atP := putT_at as kvs (upd H S (.lst (as.map V.ref))) hl nd
  have off : ∀ b, b ∉ as → b ≠ S → putT (upd H S (.lst (as.map V.ref))) as kvs b = H b := fun b h1 h2 => by rw [putT_off as kvs _ h1, upd_ne h2]
  have low : ∀ b o, s.heap.get? b = some o → b ∉ as ∧ b ≠ S := fun b o e =>
    ⟨fun z => absurd (Heap.lt_size e) (Nat.not_lt.mpr (Nat.le_trans hSl (Nat.le_of_lt (hG.above b z)))), fun z => absurd (Heap.lt_size e) (Nat.not_lt.mpr (by rw [z]; exact hSl))⟩
  have kp : ∀ b u, H b = some u → (putT (upd H S (.lst (as.map V.ref))) as kvs) b = some u := fun b u e => by
    rw [off b (fun z => by rw [new b z] at e; cases e) (fun z => by rw [z, newS] at e; cases e)]
    exact e
  have eS : putT (upd H S (.lst (as.map V.ref))) as kvs S = some (.lst (as.map V.ref)) := by rw [putT_off as kvs _ hSn, upd_same]
  refine ⟨putT (upd H S (.lst (as.map V.ref))) as kvs, ⟨kp, newS, new, hSn, eS, atP⟩, ?_⟩
  refine I.call' (ch := []) rfl ⟨fun b o q _ _ _ => hk b o q, fun b o q _ _ _ => ⟨o.slots, hk b o q⟩, fun b o q n _ => ?_, fun b o q _ => ⟨o, hk b o q⟩, fun b xs q => kp b _ q, fun b o u q => kp b _ q, fun b ps q => ⟨#[], by rw [kp b _ q]; simp⟩⟩ (fun b u q => ?_) I.bare fun b z => by simp at z
  · obtain ⟨z1, z2⟩ := low b o q
    rw [off b z1 z2]
    exact n
  · by_cases hb : b ∈ as
    · obtain ⟨j, pk, e1, e2, e3⟩ := LiI.paired_ix atP hb
      rw [e3] at q
      cases q
      obtain ⟨k, v, f1, f2⟩ := hG.pairs j b e1
      obtain ⟨p, g1, g2, g3⟩ := kv j k v f1 (List.getElem?_eq_some_iff.mp e2).1
      rw [e2] at g1
      cases g1
      exact ⟨by show 2 ≤ sizeLine; decide, [k, v], .cons g2 (.cons g3 .nil), ⟨_, f2, rfl, _, rfl⟩⟩
    · by_cases hb2 : b = S
      · rw [hb2] at q ⊢
        rw [eS] at q
        cases q
        refine ⟨by rw [List.length_map]; omega, acc.toList, c, by rw [hacc]; exact LiI.vals_refs as, ?_⟩
        rw [Array.toArray_toList]
        exact hS
      · rw [off b hb hb2] at q
        exact (I.hok b u q).stay (fun d v _ y => hk d v y) (fun d y => kp d _ y) fun d xs y => kp d _ y
theorem vals_getL : ∀ {xs : List V} {us : List Value}, Vals xs us → ∀ {i : Nat} {u : Value}, us[i]? = some u → ∃ x, xs[i]? = some x ∧ RelV x u
  | _, _, .nil, i, u, h => by cases h
  | _, _, .cons r t, 0, u, h => by
    have e := Option.some.inj h
    subst e
    exact ⟨_, rfl, r⟩
  | _, _, .cons r t, i + 1, u, h => vals_getL t (i := i) h
/-- the items numbered -/
def numV : Nat → List V → List (V × V)
  | _, [] => []
  | k, x :: xs => (.int k, x) :: numV (k + 1) xs
theorem numV_len : ∀ (xs : List V) (k : Nat), (numV k xs).length = xs.length
  | [], _ => rfl
  | _ :: xs, k => congrArg (· + 1) (numV_len xs (k + 1))
theorem numV_get : ∀ (xs : List V) (k i : Nat) {x : V}, xs[i]? = some x → (numV k xs)[i]? = some (.int ((k + i : Nat) : Int), x)
  | _ :: _, k, 0, x, e => by simp at e; subst e; rfl
  | _ :: xs, k, i + 1, x, e => by
    have h := numV_get xs (k + 1) i (x := x) (by simpa using e)
    have e2 : k + 1 + i = k + (i + 1) := by omega
    rw [e2] at h
    simpa [numV] using h
def tListEnum (K : PySem.W.Frag) (ta : TA) : TE := fun σ H Q => ta σ H fun vs H1 => ∃ a xs, vs = [.ref a] ∧ SqL K H1 a xs ∧ ∀ H' p ts, NewPs H1 H' p ts (numV 0 xs) → Q (.ref p) H'
def tListZip (K : PySem.W.Frag) (ta : TA) : TE := fun σ H Q => ta σ H fun vs H1 => ∃ a b xs ys, vs = [.ref a, .ref b] ∧ SqL K H1 a xs ∧ SqL K H1 b ys ∧ ∀ H' p ts, NewPs H1 H' p ts (xs.zip ys) → Q (.ref p) H'
theorem pe_listEnum {e : Expr} {ta : TA} {p p2 pos pos2 : Pos} (hc : X.calm = true) (hg : Gl X "list") (hm : X.mg "list" = none) (hv : bootBuiltins "list" = some (.type "list")) (hg2 : Gl X "enumerate") (hm2 : X.mg "enumerate" = none) (ha : PA X [e] ta)
    (hs2 : starEach [e] X.env = [(false, eval e X.env)] := by rfl)
    (hs : starEach [.Call (.Name "enumerate" p2) [e] [] pos2] X.env = (false, eval (.Call (.Name "enumerate" p2) [e] [] pos2) X.env) :: starEach [] X.env := by rfl) :
    PE X (.Call (.Name "list" p) [.Call (.Name "enumerate" p2) [e] [] pos2] [] pos) (tListEnum X.K ta) := by
  refine ⟨fun pins s σ H Q I hq => ?_⟩
  refine wpAny_Call_Name_kw (ld_blt I hg hm hv ?_)
  refine PyProof.Rows.callWith_type1 ?_ hs rfl
  rw [hs]
  show wpAny _ _ (spliced ((false, eval (.Call (.Name "enumerate" p2) [e] [] pos2) X.env) :: backTo pos (starEach [] X.env))) _ _ s
  refine Calls.spliced_cons ?_
  refine Call_ (ld_blt I hg2 hm2 boot_enumerate (PyProof.Rows.callWith_type1 (thn (ha.run pos2 pins s σ H _ I hq) fun us s1 ⟨vs, H1, I1, r1, a, xs, ex, hx, q⟩ => ?_) hs2 rfl))
  subst ex
  cases r1 with
  | cons r rr =>
    cases rr
    cases r
    obtain ⟨its, rv, p', hz⟩ := I1.list hx
    have la : a < s1.heap.objs.size := p'.lt
    refine call_enumerate_list p'.isList fun h' he hit hsz hk => ?_
    refine Calls.spliced_nil ?_
    have hl := rv.length
    refine call_list (s := { s1 with heap := h' }) (enum_arg (s1.heap.objs.size + 1) s1.heap.objs.size a (Nat.succ_ne_self _) (Nat.ne_of_lt (Nat.lt_succ_of_lt la)) (Nat.ne_of_lt la) its.toArray) (I1.ok.hd hc)
      ⟨⟨_, he⟩, hit, p'.isList.at fun o e => hk _ o e⟩ (by simp only [List.size_toArray]; omega) fun h2 tk acc c as k2 hS hl2 hG hacc => ?_
    have hsz' : s1.heap.objs.size ≤ h'.objs.size := by rw [hsz]; omega
    have kk : ∀ b o, s1.heap.get? b = some o → h2.get? b = some o := fun b o e => k2 b o (fun z => by
      have lb := Heap.lt_size e
      have e' : b = s1.heap.objs.size + 1 ∨ b = s1.heap.objs.size := by simpa using z
      rcases e' with z | z <;> (rw [z] at lb; first | exact absurd lb (Nat.lt_irrefl _) | exact absurd lb (Nat.not_lt.mpr (Nat.le_add_right _ _)))) (hk b o e)
    obtain ⟨H', J1, J2⟩ := laid (tk := tk) (kvs := numV 0 xs) I1 (by rw [numV_len]; exact hz) (fun i k v hr hi => by
      obtain ⟨⟨t, rfl⟩, hv⟩ := hr
      obtain ⟨x, e1, e2⟩ := vals_getL rv (i := i) (u := v) (by simpa using hv)
      refine ⟨(.int (i : Nat), x), ?_, ⟨t, rfl⟩, e2⟩
      have h3 := numV_get xs 0 i e1
      rw [Nat.zero_add] at h3
      exact h3) kk hsz' hS (by rw [numV_len, hl2, List.size_toArray, hl]) hG hacc
    exact ⟨.ref _, H', J2, rfl, q H' _ as J1⟩
theorem pe_listZip {e e2 : Expr} {ta : TA} {p p2 pos pos2 : Pos} (hc : X.calm = true) (hg : Gl X "list") (hm : X.mg "list" = none) (hv : bootBuiltins "list" = some (.type "list")) (hg2 : Gl X "zip") (hm2 : X.mg "zip" = none) (ha : PA X [e, e2] ta)
    (hs2 : starEach [e, e2] X.env = (false, eval e X.env) :: starEach [e2] X.env := by rfl) (hpl : (backTo pos2 (starEach [e2] X.env)).any (·.1) = false := by rfl)
    (hs : starEach [.Call (.Name "zip" p2) [e, e2] [] pos2] X.env = (false, eval (.Call (.Name "zip" p2) [e, e2] [] pos2) X.env) :: starEach [] X.env := by rfl) :
    PE X (.Call (.Name "list" p) [.Call (.Name "zip" p2) [e, e2] [] pos2] [] pos) (tListZip X.K ta) := by
  refine ⟨fun pins s σ H Q I hq => ?_⟩
  refine wpAny_Call_Name_kw (ld_blt I hg hm hv ?_)
  refine PyProof.Rows.callWith_type1 ?_ hs rfl
  rw [hs]
  show wpAny _ _ (spliced ((false, eval (.Call (.Name "zip" p2) [e, e2] [] pos2) X.env) :: backTo pos (starEach [] X.env))) _ _ s
  refine Calls.spliced_cons ?_
  refine Call_ (ld_blt I hg2 hm2 PyProof.Rows.boot_zip (PyProof.Rows.callWith_type1 (thn (ha.run pos2 pins s σ H _ I hq) fun us s1 ⟨vs, H1, I1, r1, a, b, xs, ys, ex, hx, hy, q⟩ => ?_) hs2 hpl))
  subst ex
  cases r1 with
  | cons r rr =>
    cases rr with
    | cons r' rr =>
      cases rr
      cases r
      cases r'
      obtain ⟨its, rv, p1, z1⟩ := I1.list hx
      obtain ⟨its2, rv2, p2', z2⟩ := I1.list hy
      have la : a < s1.heap.objs.size := p1.lt
      have lb : b < s1.heap.objs.size := p2'.lt
      refine call_zip_2 p1.isList p2'.isList fun h' hz hTI hTO h1 h2 hsz hk => ?_
      refine Calls.spliced_nil ?_
      have hl := rv.length
      have hl' := rv2.length
      refine call_list (s := { s1 with heap := h' }) (zip_arg _ _ _ _ _ a b (PySem.W.ktu_apart s1.heap.objs.size a b la lb) its.toArray its2.toArray) (I1.ok.hd hc)
        ⟨hz, hTI, ⟨_, _, hTO⟩, h1, h2, p1.isList.at fun o e => hk _ o e, p2'.isList.at fun o e => hk _ o e⟩ (by simp only [List.size_toArray]; omega) fun h3 tk acc c as k2 hS hl2 hG hacc => ?_
      have hsz' : s1.heap.objs.size ≤ h'.objs.size := by rw [hsz]; omega
      have kk : ∀ b o, s1.heap.get? b = some o → h3.get? b = some o := fun b o e => k2 b o (fun z => by
        have lb := Heap.lt_size e
        have e' : b = s1.heap.objs.size + 4 ∨ b = s1.heap.objs.size + 3 ∨ b = s1.heap.objs.size ∨ b = s1.heap.objs.size + 1 := by simpa using z
        rcases e' with z | z | z | z <;> (rw [z] at lb; first | exact absurd lb (Nat.lt_irrefl _) | exact absurd lb (Nat.not_lt.mpr (Nat.le_add_right _ _)))) (hk b o e)
      obtain ⟨H', J1, J2⟩ := laid (tk := tk) (kvs := xs.zip ys) I1 (by rw [List.length_zip]; omega) (fun i k v hr hi => by
        obtain ⟨e1, e2⟩ := hr
        obtain ⟨x, f1, f2⟩ := vals_getL rv (i := i) (u := k) (by simpa using e1)
        obtain ⟨y, g1, g2⟩ := vals_getL rv2 (i := i) (u := v) (by simpa using e2)
        exact ⟨(x, y), by rw [List.getElem?_zip_eq_some]; exact ⟨f1, g1⟩, f2, g2⟩) kk hsz' hS (by rw [List.length_zip, hl2, List.size_toArray, List.size_toArray, hl, hl']) hG hacc
      exact ⟨.ref _, H', J2, rfl, q H' _ as J1⟩
end
end LZ

namespace L2.VW
open PySem PySem.Spec PyProof.Rows
section
variable {K : PySem.W.Frag} {F0 F : Hp} {S : Sto} {H H' : Hp}
/-- new objects that never change -/
def extF (F H H' : Hp) : Hp := fun b => match F b with | some u => some u | none => match H b with | some _ => none | none => H' b
theorem RelH.more (r : RelH K F0 F S H) (k : ∀ b o, H b = some o → H' b = some o) : Same F (extF F H H') ∧ RelH K F0 (extF F H H') S H' ∧ ∀ b, H b = none → extF F H H' b = H' b := by
  have s : Same F (extF F H H') := fun b u e => by simp only [extF, e]
  refine ⟨s, ⟨r.s0.trans s, fun b u e => ?_, fun a o e => ?_⟩, fun b e => ?_⟩
  · unfold extF at e
    cases hF : F b with
    | some u' => rw [hF] at e; cases e; exact k b _ (r.fr _ _ hF)
    | none =>
      rw [hF] at e
      cases hH : H b with
      | some _ => rw [hH] at e; cases e
      | none => rw [hH] at e; exact e
  · obtain ⟨h1, ho, h2, h3⟩ := r.tr a o e
    exact ⟨by simp only [extF, h1, h2], ho, k _ _ h2, h3.mono s⟩
  · simp only [extF, (r.free e).1, e]
def numD : Nat → List D → List D
  | _, [] => []
  | k, x :: xs => .tup [.int k, x] :: numD (k + 1) xs
def zipD : List D → List D → List D
  | x :: xs, y :: ys => .tup [x, y] :: zipD xs ys
  | _, _ => []
theorem vd_pairs {ts : List Addr} : ∀ {kvs : List (V × V)} {ds : List D}, Paired (fun (t : Addr) (q : V × V) => F t = some (.tup [q.1, q.2])) ts kvs → Paired (fun (q : V × V) (d : D) => ∃ x y, d = .tup [x, y] ∧ Vd K F q.1 x ∧ Vd K F q.2 y) kvs ds → VdAll K F (ts.map V.ref) ds := by
  intro kvs ds h1
  induction h1 generalizing ds with
  | nil => intro h2; cases h2; exact .nil
  | cons a t ih => intro h2; cases h2 with | cons b u => obtain ⟨x, y, rfl, v1, v2⟩ := b; exact .cons (.tup a (.cons v1 (.cons v2 .nil))) (ih u)
theorem num_rel : ∀ {xs : List V} {ds : List D} (k : Nat), VdAll K F xs ds → Paired (fun (q : V × V) (d : D) => ∃ x y, d = .tup [x, y] ∧ Vd K F q.1 x ∧ Vd K F q.2 y) (LZ.numV k xs) (numD k ds)
  | _, _, _, .nil => .nil
  | _, _, k, .cons a t => .cons ⟨_, _, rfl, .int _, a⟩ (num_rel (k + 1) t)
theorem zip_rel : ∀ {xs ys : List V} {ds es : List D}, VdAll K F xs ds → VdAll K F ys es → Paired (fun (q : V × V) (d : D) => ∃ x y, d = .tup [x, y] ∧ Vd K F q.1 x ∧ Vd K F q.2 y) (xs.zip ys) (zipD ds es)
  | _, _, _, _, .nil, _ => .nil
  | _, _, _, _, .cons _ _, .nil => .nil
  | _, _, _, _, .cons a t, .cons b u => .cons ⟨_, _, rfl, a, b⟩ (zip_rel t u)
theorem pq_mono {F' : Hp} (s : Same F F') : ∀ {kvs : List (V × V)} {ds : List D}, Paired (fun (q : V × V) (d : D) => ∃ x y, d = .tup [x, y] ∧ Vd K F q.1 x ∧ Vd K F q.2 y) kvs ds → Paired (fun (q : V × V) (d : D) => ∃ x y, d = .tup [x, y] ∧ Vd K F' q.1 x ∧ Vd K F' q.2 y) kvs ds
  | _, _, .nil => .nil
  | _, _, .cons ⟨x, y, e, v1, v2⟩ t => .cons ⟨x, y, e, v1.mono s, v2.mono s⟩ (pq_mono s t)
theorem newPs_at {p : Addr} {ts : List Addr} {kvs : List (V × V)} {ds : List D} (r : RelH K F0 F S H) (n : LZ.NewPs H H' p ts kvs) (v : Paired (fun (q : V × V) (d : D) => ∃ x y, d = .tup [x, y] ∧ Vd K F q.1 x ∧ Vd K F q.2 y) kvs ds) :
    ∃ F', Same F F' ∧ RelH K F0 F' S H' ∧ Vd K F' (.ref p) (.lst ds) := by
  obtain ⟨n1, n2, n3, n4, n5, n6⟩ := n
  obtain ⟨s, r', at'⟩ := r.more n1
  refine ⟨_, s, r', .lst (by rw [at' p n2]; exact n5) (vd_pairs (kvs := kvs) ?_ (pq_mono s v))⟩
  clear n5 v
  induction n6 with
  | nil => exact .nil
  | cons a t ih => exact .cons (by rw [at' _ (n3 _ List.mem_cons_self)]; exact a) (ih (fun t ht => n3 t (List.mem_cons_of_mem _ ht)) fun z => n4 (List.mem_cons_of_mem _ z))
def dListEnum (da : TAD) : TED := fun env S P => da env S fun xs S1 => ∃ x ds, xs = [x] ∧ SeqL S1 x ds ∧ P (.lst (numD 0 ds)) S1
def dListZip (da : TAD) : TED := fun env S P => da env S fun xs S1 => ∃ x y ds es, xs = [x, y] ∧ SeqL S1 x ds ∧ SeqL S1 y es ∧ P (.lst (zipD ds es)) S1
instance {ta : TA} {da : TAD} [UpA K F0 ta da] : UpE K F0 (LZ.tListEnum K ta) (dListEnum da) := ⟨fun r0 h le =>
  UpA.up (t := ta) (td := da) r0 h fun xs S1 F1 H1 vs ⟨x, ds, e, hx, p⟩ s1 r1 v1 => by
    subst e
    cases v1 with
    | cons hv b =>
      cases b
      obtain ⟨a, xs, rfl, hq, hxs⟩ := hx.at r1 hv
      refine ⟨a, xs, rfl, hq, fun H' q ts hn => ?_⟩
      obtain ⟨F', s2, r2, v2⟩ := newPs_at r1 hn (num_rel 0 hxs)
      exact le _ _ _ _ _ p (s1.trans s2) r2 v2⟩
instance {ta : TA} {da : TAD} [UpA K F0 ta da] : UpE K F0 (LZ.tListZip K ta) (dListZip da) := ⟨fun r0 h le =>
  UpA.up (t := ta) (td := da) r0 h fun xs S1 F1 H1 vs ⟨x, y, ds, es, e, hx, hy, p⟩ s1 r1 v1 => by
    subst e
    cases v1 with
    | cons hv b =>
      cases b with
      | cons hw b =>
        cases b
        obtain ⟨a, xs, rfl, hq, hxs⟩ := hx.at r1 hv
        obtain ⟨b, ys, rfl, hq2, hys⟩ := hy.at r1 hw
        refine ⟨a, b, xs, ys, rfl, hq, hq2, fun H' q ts hn => ?_⟩
        obtain ⟨F', s2, r2, v2⟩ := newPs_at r1 hn (zip_rel hxs hys)
        exact le _ _ _ _ _ p (s1.trans s2) r2 v2⟩
/-- dict(..) of a list of pairs -/
def rDicPs (K : PySem.W.Frag) : List V → Hp → VK → Prop := fun xs H Q => ∃ (a : Addr) (ps : List Addr) (kvs : List (Key × V)), xs = [.ref a] ∧ SqL K H a (ps.map V.ref) ∧ Paired (fun p kv => SqT K H p [kV kv.1, kv.2]) ps kvs ∧
    ∀ p, H p = none → Q (.ref p) (upd H p (.dK (mergeK [] kvs)))
theorem call_dicPs {X : Cx} (hc : X.calm = true) : CallR X (.type "dict") (rDicPs X.K) := call_dictP hc
theorem pairs_at (r : RelH K F0 F S H) : ∀ {kds : List (Key × D)} {xs : List V}, VdAll K F xs (kds.map fun kd => .tup [kD kd.1, kd.2]) →
    ∃ (ps : List Addr) (kvs : List (Key × V)), xs = ps.map V.ref ∧ Paired (fun p kv => SqT K H p [kV kv.1, kv.2]) ps kvs ∧ KP K F kvs kds
  | [], _, h => by cases h; exact ⟨[], [], rfl, .nil, .nil⟩
  | kd :: kds, _, h => by
    cases h with
    | cons a t =>
      obtain ⟨ps, kvs, rfl, h1, h2⟩ := pairs_at r t
      obtain ⟨b, xs, rfl, hq, hxs⟩ := tup_at r a
      cases hxs with
      | cons vk u =>
        cases u with
        | cons vv u =>
          cases u
          have ek := vd_key vk
          subst ek
          exact ⟨b :: ps, (kd.1, _) :: kvs, rfl, .cons hq h1, .cons ⟨rfl, vv⟩ h2⟩
def dDicPs : List D → Sto → PV → Prop := fun xs S P => ∃ x kds, xs = [x] ∧ SeqL S x (kds.map fun kd => .tup [kD kd.1, kd.2]) ∧ ∀ p, S p = none → P (.ref p) (sup S p (.dK (mergeD [] kds)))
instance : UpC K F0 (rDicPs K) dDicPs := ⟨fun r hv ⟨x, kds, e, h, p⟩ le => by
  subst e
  cases hv with
  | cons hv b =>
    cases b
    obtain ⟨a, xs, rfl, hq, hxs⟩ := h.at r hv
    obtain ⟨ps, kvs, rfl, h1, h2⟩ := pairs_at r hxs
    have kp := KP.merge (kvs := []) (kds := []) .nil h2
    exact ⟨a, ps, kvs, rfl, hq, h1, fun q hq => le _ _ _ _ _ (p q (r.free hq).2) (Same.refl _) (r.new hq (.dK kp.keys kp.vals)) (.ref q)⟩⟩
/-- pairs whose keys are apart -/
theorem mergeD_apart : ∀ (more kds : List (Key × D)), (kds ++ more).Pairwise (fun p q => p.1 ≠ q.1) → mergeD kds more = kds ++ more
  | [], kds, _ => by simp [mergeD]
  | p :: more, kds, h => by
    have e : putD kds p.1 p.2 = kds ++ [p] := by
      unfold putD
      rw [if_neg]
      intro c
      obtain ⟨q, hq, e⟩ := List.any_eq_true.mp c
      exact (List.pairwise_append.mp h).2.2 q hq p List.mem_cons_self (of_decide_eq_true e)
    show mergeD (putD kds p.1 p.2) more = _
    rw [e, mergeD_apart more (kds ++ [p]) (by rw [List.append_assoc]; exact h), List.append_assoc]
    rfl
theorem numD_map : ∀ (ds : List D) (k : Nat), numD k ds = ((ds.zipIdx k).map fun q => ((.inl (q.2 : Nat) : Key), q.1)).map fun kd => .tup [kD kd.1, kd.2]
  | [], _ => rfl
  | x :: xs, k => by rw [numD, numD_map xs (k + 1)]; rfl
/-- a comprehension over a range whose turns draw from the pool at q -/
theorem lcD_drawnR {w : WD} {gd : TGD} {ttd : TTD} {ed : TED} {vs : List Nat} {env : EnvD} {S1 : Sto} {P : PV} {q : Addr} (xs : List D) (Inv : Nat → List D → Prop) (hn : w.n = xs.length) (hi : ∀ i d, i < w.n → w.item i d → xs[i]? = some d) (hq : PoolS S1 q)
    (hok : ∀ L acc S, S1 L = none → (∀ a o, S1 a = some o → a ≠ q → S a = some o) → w.ok (sup S L (.lst acc))) (h0 : Inv 0 []) (hl : ∀ i acc, Inv i acc → acc.length < sizeLine)
    (ht : ∀ (i : Nat) (d : D) (acc : List D) (S : Sto) (Zy : D → Sto → Prop) (Zn : Sto → Prop), xs[i]? = some d → Inv i acc → PoolS S q → (∀ a o, S1 a = some o → a ≠ q → S a = some o) →
      (∀ y S', Drawn S q S' → Inv (i + 1) (acc ++ [y]) → Zy y S') → (∀ S', Drawn S q S' → Inv (i + 1) acc → Zn S') →
      gd d (wipeD env vs) S fun env2 S2 => ttd env2 S2 fun b S3 => if b = true then ed env2 S3 Zy else Zn S3)
    (hp : ∀ acc S', Inv xs.length acc → Drawn S1 q S' → P (.lst acc) S') :
    LcD w gd ttd ed vs env P S1 := ⟨fun L hL => by
  have nL := hq.ne hL
  refine ⟨fun i acc S => Inv i acc ∧ ∃ S', S = sup S' L (.lst acc) ∧ Drawn S1 q S', ⟨h0, S1, rfl, .refl hq⟩, fun i acc S _ ⟨_, S', e, d⟩ => ?_, fun i x acc S hlt hit ⟨iv, S', e, d⟩ => ?_, fun acc S ⟨iv, S', e, d⟩ => ?_⟩
  · subst e
    exact ⟨sup_same, hok L _ _ hL fun a o e n => d.at e n⟩
  · subst e
    refine ht i x acc _ _ _ (hi i x hlt hit) iv (d.pool.over nL) (fun a o e n => by rw [sup_ne (sne_of e hL)]; exact d.at e n) (fun y S2 d2 iv2 => ?_) (fun S2 d2 iv2 => ?_)
    · obtain ⟨S3, rfl, d3⟩ := d2.under nL
      exact ⟨sup_same, hl i acc iv, iv2, S3, by rw [sup_sup], d.trans d3⟩
    · obtain ⟨S3, rfl, d3⟩ := d2.under nL
      exact ⟨iv2, S3, rfl, d.trans d3⟩
  · subst e
    rw [sdel_sup (d.gone hL nL)]
    rw [hn] at iv
    exact hp acc S' iv d⟩
/-! ### which slots a target stores to, by instances -/
end
end L2.VW
/-! ### zip of a text and a tuple -/
namespace ZS
open PySem PyProof.Rows L2
def ItzS (K : PySem.W.Frag) (z : Str) (b : Addr) : It :=
  ⟨fun i H => ∃ (ys : List V) (c : Nat) (y : V), z.cps[i]? = some c ∧ SqT K H b ys ∧ ys[i]? = some y,
    fun i H v H' => ∃ p c y, v = .ref p ∧ H p = none ∧ H' = upd H p (.tup [.str ⟨#[c]⟩, y]) ∧ z.cps[i]? = some c ∧ ∀ ys, SqT K H b ys → ys[i]? = some y,
    fun i H => ∃ ys : List V, SqT K H b ys ∧ i = min z.cps.size ys.length⟩
theorem sep_of {z TI TO i1 i2 a b : Addr} (D : ZipApart z TI TO i1 i2 a b) : ZipSep2 z TI TO i1 i2 [i1] [i2, b] :=
  ⟨D.TIz, D.TOz, D.TITO, D.TIi1, by simp, by simp [D.i1z.symm], by simp [D.TOi1], D.TIi2, by simp, by simp [D.i2z.symm, D.l2z.symm], by simp [D.TOi2, D.l2TO.symm], by simp [D.i12, D.l2i1.symm], by simp [D.i12.symm]⟩
theorem turn_m {P : Program} {w : World} {K : PySem.W.Frag} {elts : List Expr} {kk : Nat} {tpos : Pos} {a b z TI TO i1 i2 : Addr} (zz : Str) (tt : Tok) (D : ZipApart z TI TO i1 i2 a b) :
    Turn P w K (.Tuple elts kk tpos) (ItzS K zz b) [z, TI, TO, i1, i2] z (fun i h => IsZip h z TI TO .none ∧ IsPair h TI (.ref i1) (.ref i2) ∧ (∃ x y, IsPair h TO x y) ∧ h.IsStrIter i1 (strIterType zz) zz tt i ∧ h.IsTupleIter i2 b i) where
  mem := by simp
  obj := fun i h st c hc => by
    obtain ⟨hz, h1, ⟨x, y, h2⟩, ⟨o1, e1, _, d1⟩, h3⟩ := st
    obtain ⟨o2, e2, _, d2⟩ := h3
    simp only [List.mem_cons, List.not_mem_nil, or_false] at hc
    rcases hc with rfl | rfl | rfl | rfl | rfl
    · exact ⟨_, hz, fun v q => nomatch q⟩
    · exact ⟨_, h1, fun v q => nomatch q⟩
    · exact ⟨_, h2, fun v q => nomatch q⟩
    · exact ⟨o1, e1, fun v q => by rw [d1] at q; cases q⟩
    · exact ⟨o2, e2, fun v q => by rw [d2] at q; cases q⟩
  keep := fun i h h' st k => by
    obtain ⟨hz, h1, ⟨x, y, h2⟩, h3, h4⟩ := st
    exact ⟨k z (by simp) _ hz, k TI (by simp) _ h1, ⟨x, y, k TO (by simp) _ h2⟩, (let ⟨o, ho, r⟩ := h3; ⟨o, k i1 (by simp) o ho, r⟩), h4.at fun o q => k i2 (by simp) o q⟩
  item := by
    intro X hP hw hK hc i pins s σ H E I hf st hg
    subst hP hw hK
    obtain ⟨hz, hTI, ⟨x0, y0, hTO⟩, h1, h2⟩ := st
    obtain ⟨ys, c, y, hx, hqy, hy⟩ := hg
    obtain ⟨its2, rv2, p2, _⟩ := I.tuple hqy
    obtain ⟨u2, hu2, ru2⟩ := rv2.get hy
    have hzl : z < s.heap.objs.size := Heap.lt_size hz
    have b1 : i < zz.cps.size := by
      by_cases q : i < zz.cps.size
      · exact q
      · rw [Array.getElem?_eq_none (by omega)] at hx; cases hx
    have b2 : i < its2.toArray.size := by simpa using (List.getElem?_eq_some_iff.mp hu2).1
    have hh : X.A.in1.handled = none := I.ok.hd hc
    refine wpAny_pyNext_zipD2_item (sep_of D) (Draws.text (A := X.A.in1) hh i1 zz tt) (Draws.tuple (A := X.A.in1) hh i2 b D.l2i2 its2.toArray) hz hTI hTO h1 ⟨h2, p2⟩ b1 b2 fun v1 v2 h' tk q1 q2 z' TO' g1 g2 hT hsz hk => ?_
    obtain ⟨c1, u, hc1, rfl⟩ := q1
    obtain rfl : c1 = c := Option.some.inj (hc1.symm.trans hx)
    obtain rfl : v2 = u2 := by
      have q2 : its2.toArray[i]? = some v2 := q2
      have e : its2.toArray[i]? = some u2 := by simpa using hu2
      exact Option.some.inj (q2.symm.trans e)
    refine ⟨_, rfl, wpAny_letOwnedTupleGo_zip (s := { s with heap := h', toks := tk }) z' fun h'' z'' sb => ?_⟩
    have hT2 : h''.get? s.heap.objs.size = some { cls := .type "tuple", data := .seq #[.str ⟨#[c1]⟩ u, v2] } := (sb.2 _ (Nat.ne_of_gt hzl)).trans hT
    have new : ObjOk X.prog X.w (upd H s.heap.objs.size (.tup [.str ⟨#[c1]⟩, y])) h'' s.heap.objs.size (.tup [.str ⟨#[c1]⟩, y]) := ⟨by show 2 ≤ sizeLine; decide, [.str ⟨#[c1]⟩ u, v2], .cons ⟨u, rfl⟩ (.cons ru2 .nil), ⟨_, hT2, rfl, _, rfl⟩⟩
    have I1 : Inv X pins σ (upd H s.heap.objs.size (.tup [.str ⟨#[c1]⟩, y])) { s with heap := h'', toks := tk } := by
      refine I.turnedNew (t' := tk) (ch := [z, TI, TO, i1, i2]) (fun c o hb q => ?_) hf (Nat.le_refl _) new
      have nn : ∀ d, d ∈ [z, TI, TO, i1, i2] → c ≠ d := fun d hd e => hb (e ▸ hd)
      exact (sb.2 c (nn z (by simp))).trans (hk c o (nn z (by simp)) (nn TO (by simp)) (nn i1 (by simp)) (nn i2 (by simp)) q)
    refine ⟨.ref s.heap.objs.size, _, I1, rfl, ⟨_, c1, y, rfl, I.fresh, rfl, hx, fun l hl => by rw [I.tuple_inj hl hqy]; exact hy⟩, ⟨z'', ?_, ⟨.str ⟨#[c1]⟩ u, v2, ?_⟩, ?_, ?_⟩, fun c hm => ?_⟩
    · exact (sb.2 _ D.TIz).trans (hk _ _ D.TIz D.TITO D.TIi1 D.TIi2 hTI)
    · exact (sb.2 _ D.TOz).trans TO'
    · obtain ⟨o, ho, r⟩ := g1
      exact ⟨o, (sb.2 _ D.i1z).trans ho, r⟩
    · exact g2.1.at fun o q => (sb.2 _ D.i2z).trans q
    · have lt : c < s.heap.objs.size := by
        simp only [List.mem_cons, List.not_mem_nil, or_false] at hm
        obtain ⟨_, e1, _⟩ := h1
        obtain ⟨_, e2, _⟩ := h2
        rcases hm with rfl | rfl | rfl | rfl | rfl
        · exact hzl
        · exact Heap.lt_size hTI
        · exact Heap.lt_size hTO
        · exact Heap.lt_size e1
        · exact Heap.lt_size e2
      rw [upd_ne (Nat.ne_of_lt lt)]
      exact (hf c hm).1
  done := by
    intro X hP hw hK hc i pins s σ H E I hf st hg
    subst hP hw hK
    obtain ⟨hz, hTI, ⟨x0, y0, hTO⟩, h1, h2⟩ := st
    obtain ⟨ys, hqy, hend⟩ := hg
    obtain ⟨its2, rv2, p2, _⟩ := I.tuple hqy
    have l2 : its2.toArray.size = ys.length := by simpa using rv2.length.symm
    have hh : X.A.in1.handled = none := I.ok.hd hc
    refine wpAny_pyNext_zipD2_end (sep_of D) (Draws.text (A := X.A.in1) hh i1 zz tt) (Draws.tuple (A := X.A.in1) hh i2 b D.l2i2 its2.toArray) hz hTI hTO h1 ⟨h2, p2⟩ (by omega) (by omega) (by omega) fun h' tk hk => ⟨rfl, ?_⟩
    refine I.turnedL (t' := tk) (ch := [z, TI, TO, i1, i2]) (fun c o hb q => ?_) hf
    have nn : ∀ d, d ∈ [z, TI, TO, i1, i2] → c ≠ d := fun d hd e => hb (e ▸ hd)
    exact hk c o (nn z (by simp)) (nn TO (by simp)) (nn i1 (by simp)) (nn i2 (by simp)) q
  self := fun A i s Q E st h => wpAny_pyIter_zip st.1 h
def iZipS (K : PySem.W.Frag) (ta : TA) : TI := fun σ H R => ta σ H fun vs H1 => ∃ z b ys, vs = [.str z, .ref b] ∧ SqT K H1 b ys ∧ R (ItzS K z b) H1
theorem pi_zipS {X : Cx} {e e2 : Expr} {ta : TA} {p pos tpos : Pos} {elts : List Expr} {kk : Nat} (hg : Gl X "zip") (hm : X.mg "zip" = none) (ha : PA X [e, e2] ta) (hs : starEach [e, e2] X.env = (false, eval e X.env) :: starEach [e2] X.env := by rfl) (hpl : (backTo pos (starEach [e2] X.env)).any (·.1) = false := by rfl) :
    PI X (.Tuple elts kk tpos) (.Call (.Name "zip" p) [e, e2] [] pos) (iZipS X.K ta) := by
  refine ⟨fun pins s σ H R I h => ?_⟩
  refine Call_ (ld_blt I hg hm boot_zip (callWith_type1 (thn (ha.run pos pins s σ H _ I h) fun us s1 ⟨vs, H1, I1, r1, zz, b, ys, ex, hqy, q⟩ => ?_) hs hpl))
  subst ex
  obtain ⟨t, v, rfl, rfl⟩ : ∃ t v, us = [Value.str zz t, v] ∧ v = Value.ref b := by
    cases r1 with
    | cons r rr =>
      obtain ⟨t, rfl⟩ := r
      cases rr with
      | cons r' rr => cases rr; exact ⟨t, _, rfl, r'⟩
  obtain ⟨its2, rv2, p2, _⟩ := I1.tuple hqy
  have lb : b < s1.heap.objs.size := by obtain ⟨o, e, _⟩ := id p2; exact Heap.lt_size e
  refine zip_begins2 (begins_text zz t) (begins_tuple b its2.toArray) trivial p2 fun h' hz hTI hTO h1 h2 hsz hk => wpAny_pyIter_zip hz ?_
  have I2 : Inv X pins σ H1 { s1 with heap := h' } := I1.kept (t' := s1.toks) hk
  have D := PySem.W.ktu_apart s1.heap.objs.size b b lb lb
  refine ⟨s1.heap.objs.size + 4, [s1.heap.objs.size + 4, s1.heap.objs.size + 2, s1.heap.objs.size + 3, s1.heap.objs.size, s1.heap.objs.size + 1], _, _, H1, rfl, I2, turn_m zz t D, ⟨hz, hTI, ⟨_, _, hTO⟩, ⟨_, h1, rfl, rfl⟩, ⟨_, h2, rfl, rfl⟩⟩, fun c hm => ?_, q⟩
  have le : s1.heap.objs.size ≤ c := by
    simp only [List.mem_cons, List.not_mem_nil, or_false] at hm
    rcases hm with rfl | rfl | rfl | rfl | rfl
    · exact Nat.le_add_right _ _
    · exact Nat.le_add_right _ _
    · exact Nat.le_add_right _ _
    · exact Nat.le_refl _
    · exact Nat.le_add_right _ _
  exact I1.fpOk le (I1.hok.fresh le)
end ZS
/-! lifted -/
namespace L2.VW
open PySem
section
variable {K : PySem.W.Frag} {F0 : Hp}
def wZS (z : Str) (es : List D) : WD := ⟨min z.cps.size es.length, fun _ => True, fun i d => ∃ c b, z.cps[i]? = some c ∧ es[i]? = some b ∧ d = .tup [.str ⟨#[c]⟩, b]⟩
def jZipS (da : TAD) : TID := fun env S P => da env S fun xs S1 => ∃ z es, xs = [.str z, .tup es] ∧ P (wZS z es) S1
instance {ta : TA} {da : TAD} [UpA K F0 ta da] : UpI K F0 (ZS.iZipS K ta) (jZipS da) := ⟨fun r0 h le =>
  UpA.up (t := ta) (td := da) r0 h fun xs S1 F1 H1 vs ⟨z, es, e, p⟩ s1 r1 v1 => by
    subst e
    cases v1 with
    | cons hv b =>
      cases b with
      | cons hu b =>
        cases b
        cases hv
        obtain ⟨b, ys, e', hq', hl'⟩ := tup_at r1 hu
        subst e'
        have bt_ : ∀ {F S H}, Same F1 F → RelH K F0 F S H → ∃ xs, SqT K H b xs ∧ VdAll K F xs es := fun s r => by
          obtain ⟨a', xs, e, hq, hl⟩ := tup_at r (hu.mono s)
          cases e
          exact ⟨xs, hq, hl⟩
        refine ⟨z, b, ys, rfl, hq', le _ _ _ _ _ p s1 r1 ⟨fun i F S H hi s r h => ?_, fun F S H s r h => ?_, fun i F S H y H' hi s r h hz => ?_⟩⟩
        · obtain ⟨ys, hq', hl'⟩ := bt_ s r
          have hi : i < min z.cps.size es.length := hi
          have h2 : i < ys.length := by rw [hl'.len]; omega
          exact ⟨ys, z.cps[i]'(by omega), ys[i], Array.getElem?_eq_getElem _, hq', List.getElem?_eq_getElem h2⟩
        · obtain ⟨ys, hq', hl'⟩ := bt_ s r
          exact ⟨ys, hq', by rw [hl'.len]; rfl⟩
        · obtain ⟨ys, hq', hl'⟩ := bt_ s r
          obtain ⟨T, c, y1, rfl, hT, rfl, hc, hy1⟩ := hz
          obtain ⟨d2, h3, h4⟩ := hl'.getL (hy1 ys hq')
          obtain ⟨F', s2, r2, g2, v2⟩ := pair_new (F1 := F) r hT (.str ⟨#[c]⟩) h4
          exact ⟨F', _, s2, r2, g2, v2, c, d2, hc, h3, rfl⟩⟩
end
end L2.VW

/-! ### a, *b = a list -/
namespace ST
open PySem PyProof.Rows PySem.W
section
variable {prog : Program} {w : World} {A : Around} {E : Value → Shared → Prop} {s : Shared}
theorem unpack_starL {t : Addr} {items : Array Value} {n k : Nat} {Q : List Value → Shared → Prop} (hh : A.handled = none) (ht : s.heap.IsList t items) (hk : k < n) (hn : n ≤ items.size + 1) (sz : items.size ≤ sizeLine)
    (fin : ∀ (h' : Heap) (tk : Nat), (∀ b o, s.heap.get? b = some o → h'.get? b = some o) →
      Q (items.toList.take k ++ [.ref h'.objs.size] ++ items.toList.drop (items.size - (n - 1 - k))) { s with heap := h'.push { cls := .type "list", data := .seq ((items.toList.drop k).take (items.size - (n - 1))).toArray }, toks := tk }) :
    wpAny (model prog w) A (unpackItems (.ref t) n (some k)) Q E s := by
  have ne : t ≠ s.heap.objs.size := by obtain ⟨o, ho, _⟩ := ht; exact Nat.ne_of_lt (Heap.lt_size ho)
  unfold unpackItems notIterableAtAll
  refine wpAny_bind (wpAny_bind (wpAny_specialOf ht.typeIs slot_list_iter.lookup (wpAny_pure ?_)))
  simp only [Bool.false_eq_true, if_false]
  refine wpAny_bind (wpAny_holding (wpAny_pyIter_list ht ?_))
  refine wpAny_bind (wpAny_holding (kun_draw ne k 0 _ _ ⟨_, Heap.get?_push_size _ rfl, rfl, rfl⟩ (ht.push _) (by omega) fun h1 hi1 hs1 => ?_))
  have ht1 : h1.IsList t items := (ht.push _).extBut hs1.extBut ne
  have lk : (List.take k (List.drop 0 items.toList)).length = k := by rw [List.drop_zero, List.length_take]; simp; omega
  rw [if_neg (by rw [lk]; omega)]
  have hs1' : s.heap.objs.size < h1.objs.size := by obtain ⟨o, ho, _⟩ := hi1; exact Heap.lt_size ho
  rw [Nat.zero_add] at hi1
  refine wpAny_bind (wpAny_holding (kun_collect (s := { s with heap := h1 }) (.inr (.inr (.inl rfl))) (Walks.list (A := A.in1) hh s.heap.objs.size t ne items) (fun i u st => st.1.typeIs) (by omega) ⟨hi1, ht1⟩ hs1' (by obtain ⟨o, ho, _⟩ := ht1; exact Heap.lt_size ho) (fun hp2 t2 m1 => ?_) sz))
  have ld : (items.toList.drop k).length = items.size - k := by rw [List.length_drop]; simp
  rw [if_neg (by rw [ld]; omega)]
  have kp : ∀ b o, s.heap.get? b = some o → hp2.get? b = some o := fun b o e => by
    have nb : b ≠ s.heap.objs.size := Nat.ne_of_lt (Heap.lt_size e)
    exact m1 b o nb (hs1.extBut b o nb (Heap.get?_push_of_some _ e))
  refine wpAny_bind (wpAny_newList (wpAny_pure ?_) ?_)
  · have q := fin hp2 t2 kp
    have a1 : items.size - k - (n - 1 - k) = items.size - (n - 1) := by omega
    have a2 : items.toList.drop (items.size - (n - 1 - k)) = (items.toList.drop k).drop (items.size - (n - 1)) := by rw [List.drop_drop]; congr 1; omega
    rw [a2] at q
    rw [ld, a1, List.drop_zero]
    exact q
  · rw [List.length_take, ld]; omega
end
section
open L2
variable {X : Cx} {e : Expr} {es : List Expr} {t : TG} {u : TGs} {pos p : Pos}
def gStarL (K : PySem.W.Frag) (n k : Nat) (u : TGs) : TG := fun v σ H Q => ∃ a xs, v = .ref a ∧ SqL K H a xs ∧ n ≤ xs.length + 1 ∧
  ∀ l, H l = none → u (xs.take k ++ [.ref l] ++ xs.drop (xs.length - (n - 1 - k))) σ (upd H l (.lst ((xs.drop k).take (xs.length - (n - 1))))) Q
theorem pg_starL {n k kk : Nat} (hc : X.calm = true) (h : PGs X es u) (hn : (assignEach es X.env).length = n := by rfl) (hk : (assignEach es X.env).findIdx? (·.1) = some k := by rfl) (hkn : k < n := by decide) : PG X (.Tuple es kk pos) (gStarL X.K n k u) := by
  refine ⟨fun pins s σ H v x Q I r hw => ?_⟩
  obtain ⟨a, xs, rfl, hq, hl, hw⟩ := hw
  cases r
  obtain ⟨its, rv, ht, hz⟩ := I.list hq
  have el : xs.length = its.length := rv.length
  rw [assign_Tuple]
  unfold unpack
  refine wpAny_bind (wpAny_standAt (wpAny_bind (wpAny_holding ?_)))
  rw [hn, hk]
  refine unpack_starL (I.ok.hd hc) ht.isList hkn (by simp; omega) (by simp; omega) fun h' tk kp => ?_
  have I1 : Inv X pins σ H { s with heap := h', toks := tk } := I.kept (t' := tk) kp
  have ez : its.toArray.size = its.length := by simp
  have rm : Vals ((xs.drop k).take (xs.length - (n - 1))) ((its.drop k).take (its.length - (n - 1))) := by rw [el]; exact (vals_cut _ (vals_cut k rv).2).1
  have I2 : Inv X pins σ (upd H h'.objs.size (.lst ((xs.drop k).take (xs.length - (n - 1))))) { s with heap := h'.push { cls := .type "list", data := .seq ((its.drop k).take (its.length - (n - 1))).toArray }, toks := tk } :=
    I1.lnew (t' := tk) rm (by rw [List.length_take, List.length_drop]; omega)
  have rr : Vals (xs.take k ++ [.ref h'.objs.size] ++ xs.drop (xs.length - (n - 1 - k))) (its.take k ++ [.ref h'.objs.size] ++ its.drop (its.length - (n - 1 - k))) := by
    rw [el]
    have r1 : Vals [V.ref h'.objs.size] [Value.ref h'.objs.size] := .cons (show RelV (V.ref h'.objs.size) (Value.ref h'.objs.size) from rfl) .nil
    exact ((vals_cut k rv).1.append r1).append (vals_cut _ rv).2
  have q := h.run pins _ σ _ _ _ Q I2 rr (hw _ I1.fresh)
  simpa using q
end
end ST
/-! lifted -/
namespace L2.VW
open PySem
section
variable {K : PySem.W.Frag} {F0 : Hp}
theorem vdAll_take {F : Hp} : ∀ {vs : List V} {ds : List D} (k : Nat), VdAll K F vs ds → VdAll K F (vs.take k) (ds.take k) ∧ VdAll K F (vs.drop k) (ds.drop k)
  | _, _, 0, h => by simp only [List.take_zero, List.drop_zero]; exact ⟨.nil, h⟩
  | _, _, k + 1, .nil => by simp only [List.take_nil, List.drop_nil]; exact ⟨.nil, .nil⟩
  | _, _, k + 1, .cons a t => ⟨.cons a (vdAll_take k t).1, (vdAll_take k t).2⟩
def kStarL (n k : Nat) (u : TGsD) : TGD := fun x env S P => ∃ ds, SeqL S x ds ∧ n ≤ ds.length + 1 ∧ ∀ p, S p = none → u (ds.take k ++ [.ref p] ++ ds.drop (ds.length - (n - 1 - k))) env (sup S p (.lst ((ds.drop k).take (ds.length - (n - 1))))) P
instance {n k : Nat} {u : TGs} {ud : TGsD} [UpGs K F0 u ud] : UpG K F0 (ST.gStar K n k u) (kStar n k ud) := ⟨fun r0 hv ⟨ds, e, hn, h⟩ le => by
  subst e
  obtain ⟨a, xs, rfl, hq, hx⟩ := tup_at r0.h hv
  refine ⟨a, xs, rfl, hq, by rw [hx.len]; exact hn, fun l hl => ?_⟩
  have rD := r0.h.new hl (.lst ((vdAll_take (ds.length - (n - 1)) (vdAll_take k hx).2).1))
  have vv := (((vdAll_take k hx).1.app (.cons (.ref l) .nil)).app (vdAll_take (ds.length - (n - 1 - k)) hx).2)
  rw [hx.len]
  exact UpGs.up (t := u) (td := ud) (r0.at (Same.refl _) rD) vv (h l (r0.h.free hl).2) le⟩
instance {n k : Nat} {u : TGs} {ud : TGsD} [UpGs K F0 u ud] : UpG K F0 (ST.gStarL K n k u) (kStarL n k ud) := ⟨fun r0 hv ⟨ds, e, hn, h⟩ le => by
  obtain ⟨a, xs, rfl, hq, hx⟩ := e.at r0.h hv
  refine ⟨a, xs, rfl, hq, by rw [hx.len]; exact hn, fun l hl => ?_⟩
  have rD := r0.h.new hl (.lst ((vdAll_take (ds.length - (n - 1)) (vdAll_take k hx).2).1))
  have vv := (((vdAll_take k hx).1.app (.cons (.ref l) .nil)).app (vdAll_take (ds.length - (n - 1 - k)) hx).2)
  rw [hx.len]
  exact UpGs.up (t := u) (td := ud) (r0.at (Same.refl _) rD) vv (h l (r0.h.free hl).2) le⟩
end
end L2.VW

/-! ### t[::-1] -/
namespace RV
open PySem PySem.Spec PyProof.Rows HT
section
variable {prog : Program} {w : World} {A : Around} {E : Value → Shared → Prop} {s : Shared}
theorem adjust_rev (n : Nat) : Builtin.Slice.sliceAdjust none none (-1) (n : Int) = ((n : Int) - 1, -1) := by
  unfold Builtin.Slice.sliceAdjust
  simp
theorem places_rev (n : Nat) : Builtin.Slice.slicePlaces ((n : Int) - 1) (-1) (-1) = n := by
  unfold Builtin.Slice.slicePlaces
  have h1 : ¬ ((-1 : Int) > 0) := by omega
  have h2 : (-(-1 : Int)) = 1 := by decide
  simp only [h1, if_false, h2, Int.ediv_one]
  split <;> omega
theorem fm_congr {α β : Type} {f g : α → Option β} : ∀ {l : List α}, (∀ a ∈ l, f a = g a) → l.filterMap f = l.filterMap g
  | [], _ => rfl
  | a :: r, h => by
    rw [List.filterMap_cons, List.filterMap_cons, h a List.mem_cons_self, fm_congr fun b hb => h b (List.mem_cons_of_mem _ hb)]
theorem pick_rev (xs : Array Value) : ((List.range xs.size).filterMap fun (m : Nat) => xs[(((xs.size : Nat) : Int) - 1 + (m : Int) * (-1)).toNat]?) = xs.toList.reverse := by
  have e : (List.range xs.size).filterMap (fun (m : Nat) => xs[(((xs.size : Nat) : Int) - 1 + (m : Int) * (-1)).toNat]?) = (List.range xs.size).filterMap (fun m => xs.toList.reverse[m]?) := by
    apply fm_congr
    intro m hm
    have hm : m < xs.size := List.mem_range.mp hm
    have : (((xs.size : Nat) : Int) - 1 + (m : Int) * (-1)).toNat = xs.size - 1 - m := by omega
    rw [this, List.getElem?_reverse (by simpa using hm)]
    simp
  rw [e]
  have hl : xs.size = xs.toList.reverse.length := by simp
  rw [hl]
  generalize xs.toList.reverse = l
  clear e hl
  induction l with
  | nil => rfl
  | cons a r ih =>
    rw [List.length_cons, List.range_succ_eq_map, List.filterMap_cons, List.filterMap_map]
    simp only [List.getElem?_cons_zero]
    congr 1
theorem sliceApplied_rev {sl : Addr} {t : Tok} {n : Nat} {Q : Int × Int × Nat → Shared → Prop} (hs : s.heap.IsSliceOf sl .none .none (.int (-1) t)) (h : Q ((n : Int) - 1, -1, n) s) : wpAny (model prog w) A (Builtin.Slice.sliceApplied (.ref sl) (pure (n : Int))) Q E s := by
  obtain ⟨os, hos, hcs, hds⟩ := id hs
  unfold Builtin.Slice.sliceApplied Builtin.Slice.sliceFields
  refine wpAny_bind (wpAny_bind (wpAny_field hos hds (x := .none) rfl (wpAny_bind (wpAny_field hos hds (x := .none) rfl (wpAny_bind (wpAny_field hos hds (x := .int (-1) t) rfl (wpAny_pure ?_)))))))
  refine wpAny_bind (slicePart_int ?_)
  show wpAny _ _ (if ((-1 : Int) == 0) = true then _ else _) _ _ s
  rw [if_neg (by decide)]
  refine wpAny_bind (slicePart_none (wpAny_bind (slicePart_none (wpAny_bind (wpAny_pure ?_)))))
  show wpAny _ _ (match Builtin.Slice.sliceAdjust none none (-1) (n : Int) with | (lo, hi) => pure (lo, (-1 : Int), Builtin.Slice.slicePlaces lo hi (-1))) _ _ s
  rw [adjust_rev n]
  show wpAny _ _ (pure ((n : Int) - 1, (-1 : Int), Builtin.Slice.slicePlaces ((n : Int) - 1) (-1) (-1))) _ _ s
  rw [places_rev]
  exact wpAny_pure h
theorem getItem_tuple_rev {t sl : Addr} {items : Array Value} {tk : Tok} {Q : Value → Shared → Prop} (ht : IsTup s.heap t items) (hs : s.heap.IsSliceOf sl .none .none (.int (-1) tk))
    (h : Q (.ref s.heap.objs.size) { s with heap := s.heap.push { cls := .type "tuple", data := .seq items.toList.reverse.toArray } })
    (hsz : items.size ≤ sizeLine) : wpAny (model prog w) A (getItem (.ref t) (.ref sl)) Q E s := by
  have htake : sizeOk (.seq items.toList.reverse.toArray) := by
    show items.toList.reverse.toArray.size ≤ sizeLine
    rw [List.size_toArray, List.length_reverse, Array.length_toList]
    exact hsz
  obtain ⟨os, hos, hcs, hds⟩ := id hs
  have hTs : s.TypeIs (.ref sl) "slice" := ⟨os, hos, hcs⟩
  unfold getItem
  try with_reducible refine wpAny_holding ?_
  first | refine wpAny_bind (wpAny_pure ?_) | skip
  refine wpAny_bind (wpAny_sequenceKey ht.typeIs (by decide) ?_)
  refine wpAny_bind (wpAny_callSpecial?_slot (name := Str.ofString "__getitem__") ht.typeIs PyProof.Rows.slot_tuple_getitem
    (wpAny_call_entry PyProof.Rows.slot_tuple_getitem ht.typeIs entry_tuple_getitem ?_ (args_tuple_getitem _ _)))
  show wpAny _ _ (Builtin.Tuple.tupleItemsOf (.ref t) >>= _) _ _ s
  refine wpAny_bind (tupleItemsOf_ ht ?_)
  refine wpAny_bind (wpAny_typeOf hTs ?_)
  rw [if_pos (by decide)]
  refine wpAny_bind (sliceApplied_rev hs ?_)
  have hno : ¬ ((((items.size : Nat) : Int) - 1 == 0 && (-1 : Int) == 1 && items.size == items.size) = true) := by
    intro q
    rw [Bool.and_eq_true, Bool.and_eq_true] at q
    exact absurd q.1.2 (by decide)
  show wpAny _ _ (if (((items.size : Nat) : Int) - 1 == 0 && (-1 : Int) == 1 && items.size == items.size) = true then _ else _) _ _ s
  rw [if_neg hno]
  have ep : ((List.range items.size).filterMap fun (m : Nat) => items[(((items.size : Nat) : Int) - 1 + (m : Int) * (-1)).toNat]?).toArray = items.toList.reverse.toArray := by rw [pick_rev]
  rw [ep]
  first
    | exact wpAny_bind (m := Builtin.Tuple.tupleExact _) (wpAny_newObj_type (wpAny_pure ⟨_, rfl, wpAny_pure h⟩) htake)
    | exact wpAny_bind (m := Builtin.Tuple.tupleExact _) (wpAny_newObj_type (wpAny_bind (wpAny_pure (wpAny_pure ⟨_, rfl, wpAny_pure h⟩))) htake)
    | exact wpAny_bind (wpAny_bind (m := Builtin.Tuple.tupleExact _) (wpAny_newObj_type (wpAny_pure (wpAny_pure ⟨_, rfl, wpAny_pure h⟩)) htake))
    | exact wpAny_bind (wpAny_bind (m := Builtin.Tuple.tupleExact _) (wpAny_newObj_type (wpAny_pure ⟨_, rfl, wpAny_pure h⟩) htake))
end
section
open L2
variable {X : Cx} {e m1 : Expr} {te tm : TE} {p2 pos : Pos}
theorem vals_rev : ∀ {xs : List V} {us : List Value}, Vals xs us → Vals xs.reverse us.reverse
  | _, _, .nil => .nil
  | _, _, .cons a t => by
    rw [List.reverse_cons, List.reverse_cons]
    exact (vals_rev t).append (.cons a .nil)
def tRev (K : PySem.W.Frag) (te tm : TE) : TE := fun σ H Q => te σ H fun x H1 => tm σ H1 fun y H2 => y = .int (-1) ∧ ∃ a xs, x = .ref a ∧ SqT K H2 a xs ∧ ∀ p, H2 p = none → Q (.ref p) (upd H2 p (.tup xs.reverse))
theorem pe_rev (he : PE X e te) (hm : PE X m1 tm) : PE X (.Subscript e (.Slice none none (some m1) p2) pos) (tRev X.K te tm) := by
  refine ⟨fun pins s σ H Q I h => ?_⟩
  refine Subscript_ (thn (he.run pins s σ H _ I h) fun v s1 ⟨x, H1, I1, r1, q1⟩ => ?_)
  refine wpAny_Slice ?_
  rw [evalPart_none]
  refine wpAny_pure ?_
  refine wpAny_pure ?_
  refine evalPart_some_step (thn (hm.run pins s1 σ H1 _ I1 q1) fun vm s3 ⟨y, H3, I3, r3, ey, a, xs, ex, hq, q⟩ => ?_)
  subst ey; subst ex
  obtain ⟨tk, rfl⟩ := r3
  cases r1
  have I4 : Inv X pins σ H3 { s3 with heap := s3.heap.push { cls := .type "slice", data := .fields #[.none, .none, .int (-1) tk] } } := I3.kept (t' := s3.toks) fun b ob q => Heap.get?_push_of_some _ q
  obtain ⟨its, r, ht, hz⟩ := I4.tuple hq
  refine tail_any (ops := [.ref a, .ref s3.heap.objs.size]) ht.typeIs PyProof.Rows.slot_tuple_getitem.lookup ?_ (by with_unfolding_all rfl)
  have hlen : its.toArray.size = xs.length := by rw [List.size_toArray]; exact r.length.symm
  refine getItem_tuple_rev ht (Heap.IsSliceOf.new ..) ?_ (by rw [hlen]; exact hz)
  refine ⟨.ref (s3.heap.push { cls := .type "slice", data := .fields #[.none, .none, .int (-1) tk] }).objs.size, _, I4.laid (t' := s3.toks) (o := .tup xs.reverse) (fun b ob q => Heap.get?_push_of_some _ q) (Nat.le_refl _) ?_, rfl, q _ (I4.hok.fresh (Nat.le_refl _))⟩
  exact ⟨by rw [List.length_reverse]; exact hz, _, vals_rev r, IsTup.new _ _⟩
/-- x is True, x None or an int -/
def rIsBl : R2 := fun x y H Q => ∃ b, y = .bl b ∧ (x = .non ∨ ∃ i, x = .int i) ∧ Q (.bl false) H
theorem op_isBl : OpR X (compareOp .Is) rIsBl := by
  intro pins s σ H x y v u Q I rx ry h
  obtain ⟨b, rfl, hx, q⟩ := h
  cases ry
  rcases hx with rfl | ⟨i, rfl⟩
  · cases rx
    exact wpAny_pure ⟨.bl false, H, I, rfl, q⟩
  · obtain ⟨t, rfl⟩ := rx
    exact wpAny_pure ⟨.bl false, H, I, rfl, q⟩
/-- x in a list or tuple of texts: x flat, or a list or tuple -/
def isTx : V → Bool
  | .str _ => true
  | _ => false
def rInQ (K : PySem.W.Frag) : R2 := fun x y H Q => rIn K false x y H Q ∨ ∃ a p xs ys, x = .ref a ∧ y = .ref p ∧ SqL K H p xs ∧ (SqL K H a ys ∨ SqT K H a ys) ∧ xs.all isTx = true ∧ Q (.bl false) H
theorem mem_tx {A : Around} {s : Shared} {v : Value} (h : ∀ (b : Str) (u : Tok), SeqAt.EqAt A s (.str b u) v false) : ∀ {xs : List V} {us : List Value}, Vals xs us → xs.all isTx = true → ∀ u ∈ us, SeqAt.EqAt A s u v false
  | _, _, .nil, _ => fun u hu => by cases hu
  | y :: xs, u :: us, .cons r t, f => fun u' hu => by
    rw [List.all_cons, Bool.and_eq_true] at f
    rcases List.mem_cons.mp hu with rfl | hu
    · cases y with
      | str z => obtain ⟨t, rfl⟩ := r; exact h _ _
      | _ => cases f.1
    · exact mem_tx h t f.2 u' hu
theorem op_inQ (hu : X.A.units + 64 < cLine) : OpR X (compareOp .In) (rInQ X.K) := by
  intro pins s σ H x y v u Q I rx ry h
  rcases h with h | ⟨a, p, xs, ys, rfl, rfl, hq, ha, fs, q⟩
  · exact op_in_seq pins s σ H x y v u Q I rx ry h
  · cases ry
    cases rx
    obtain ⟨its, r, pl, hz⟩ := I.list hq
    have e : its.toArray.any (fun _ => false) = false := by simp
    refine SeqAt.in_listAt (fun _ => false) pl.isList (fun w hw => ?_) (by rw [e]; exact ⟨.bl false, H, I, rfl, q⟩)
    have hw : w ∈ its := by simpa using hw
    rcases ha with ha | ha
    · obtain ⟨_, _, p2, _⟩ := I.list ha
      exact mem_tx (fun b u => SeqAt.EqAt.str_list b u p2.isList (by show X.A.units + 1 < _; omega)) r fs w hw
    · obtain ⟨_, _, p2, _⟩ := I.tuple ha
      exact mem_tx (fun b u => SeqAt.EqAt.str_tuple b u p2 (by show X.A.units + 1 < _; omega)) r fs w hw
end
end RV
/-! lifted -/
namespace L2.VW
open PySem
section
variable {K : PySem.W.Frag} {F0 : Hp}
theorem vdAll_rev {F : Hp} : ∀ {vs : List V} {ds : List D}, VdAll K F vs ds → VdAll K F vs.reverse ds.reverse
  | _, _, .nil => .nil
  | _, _, .cons a t => by
    rw [List.reverse_cons, List.reverse_cons]
    exact (vdAll_rev t).app (.cons a .nil)
def dRev (da dm : TED) : TED := fun env S P => da env S fun x S1 => dm env S1 fun y S2 => y = .int (-1) ∧ ∃ ds, x = .tup ds ∧ P (.tup ds.reverse) S2
instance {ta tm : TE} {da dm : TED} [UpE K F0 ta da] [UpE K F0 tm dm] : UpE K F0 (RV.tRev K ta tm) (dRev da dm) := ⟨fun r0 h le =>
  UpE.up (t := ta) (td := da) r0 h fun x S1 F1 H1 v h1 s1 r1 v1 => UpE.up (t := tm) (td := dm) (r0.at s1 r1) h1 fun y S2 F2 H2 u ⟨e, ds, e2, p⟩ s2 r2 v2 => by
    subst e; subst e2
    cases v2
    obtain ⟨a, xs, rfl, hq, hx⟩ := tup_at r2 (v1.mono s2)
    refine ⟨rfl, a, xs, rfl, hq, fun q hq2 => ?_⟩
    obtain ⟨s3, r3⟩ := r2.newF (ho := .tup xs.reverse) hq2
    exact le _ _ _ _ _ p ((s1.trans s2).trans s3) r3 (.tup upd_same ((vdAll_rev hx).mono s3))⟩
inductive NI : D → Prop
  | non : NI .non
  | int (i : Int) : NI (.int i)
def dIsBl : R2D := fun x y S P => ∃ b, y = .bl b ∧ NI x ∧ P (.bl false) S
instance : UpR K F0 RV.rIsBl dIsBl := ⟨fun r hv hu ⟨b, e, hx, p⟩ le => by
  subst e; cases hu
  cases hx with
  | non => cases hv; exact ⟨b, rfl, .inl rfl, le _ _ _ _ _ p (Same.refl _) r (.bl _)⟩
  | int i => cases hv; exact ⟨b, rfl, .inr ⟨i, rfl⟩, le _ _ _ _ _ p (Same.refl _) r (.bl _)⟩⟩
def inQ (x : D) (ws : List Str) : Bool := match x with
  | .str z => decide (z ∈ ws)
  | _ => false
def okQ : D → Bool
  | .non => true
  | .bl _ => true
  | .int _ => true
  | .str _ => true
  | .lst _ => true
  | .tup _ => true
  | _ => false
/-- x in a list of texts -/
def dInQ : R2D := fun x y S P => ∃ ws : List Str, y = .lst (ws.map D.str) ∧ okQ x = true ∧ P (.bl (inQ x ws)) S
theorem tx_all {F : Hp} : ∀ {ws : List Str} {xs : List V}, VdAll K F xs (ws.map D.str) → xs = ws.map V.str
  | [], _, .nil => rfl
  | z :: r, _, .cons a t => by cases a; rw [tx_all t]; rfl
theorem inV_no {x : V} (h : ∀ z, x ≠ .str z) (f : flatV x = true) : ∀ ws : List Str, inV x (ws.map V.str) = false
  | [] => rfl
  | z :: r => by
    have ih := inV_no h f r
    unfold inV at ih ⊢
    rw [List.map_cons, List.any_cons, ih, Bool.or_false]
    cases x <;> first | rfl | (exact absurd rfl (h _)) | cases f
instance : UpR K F0 (RV.rInQ K) dInQ := ⟨fun {v u x y H Q F S P} r hv hu ⟨ws, e, hx, p⟩ le => by
  subst e
  obtain ⟨b, ys, rfl, hq, hy⟩ := (show SeqL S (.lst (ws.map D.str)) (ws.map D.str) from .inl rfl).at r hu
  obtain rfl := tx_all hy
  have fl : (ws.map V.str).all flatV = true := by rw [List.all_eq_true]; intro z hz; obtain ⟨a, _, rfl⟩ := List.mem_map.mp hz; rfl
  have ft : (ws.map V.str).all RV.isTx = true := by rw [List.all_eq_true]; intro z hz; obtain ⟨a, _, rfl⟩ := List.mem_map.mp hz; rfl
  have nx : ∀ b : Bool, inQ x ws = b → Q (.bl b) H := fun b e => by subst e; exact le _ _ _ _ _ p (Same.refl _) r (.bl _)
  cases hv with
  | non => exact .inl ⟨b, _, rfl, .inl hq, rfl, fl, by rw [inV_no (fun z => by simp) rfl]; exact nx _ rfl⟩
  | bl i => exact .inl ⟨b, _, rfl, .inl hq, rfl, fl, by rw [inV_no (fun z => by simp) rfl]; exact nx _ rfl⟩
  | int i => exact .inl ⟨b, _, rfl, .inl hq, rfl, fl, by rw [inV_no (fun z => by simp) rfl]; exact nx _ rfl⟩
  | str z =>
    obtain ⟨i1, _⟩ := inD_of (K := K) (F := F) (v := .str z) (.str z) rfl hy (by rw [List.all_eq_true]; intro z hz; obtain ⟨a, _, rfl⟩ := List.mem_map.mp hz; rfl)
    exact .inl ⟨b, _, rfl, .inl hq, rfl, fl, by rw [i1, inD_str]; exact nx _ rfl⟩
  | lst h1 h2 => exact .inr ⟨_, b, _, _, rfl, rfl, hq, .inl (.inl (.inl (r.fr _ _ h1))), ft, nx _ rfl⟩
  | tup h1 h2 => exact .inr ⟨_, b, _, _, rfl, rfl, hq, .inr (.inl (.inl (r.fr _ _ h1))), ft, nx _ rfl⟩
  | _ => cases hx⟩
end
end L2.VW
namespace LawK06
open PySem L2
def top (i : Nat) : Stmt := PySem.Challenge.pw_deltaboughs_k06_slots_and_swaps.main.body.getD i (.Pass ⟨0, 0, 0, 0⟩)
abbrev s_NoSize_init : Stmt := inClass (top 3) 0
abbrev s_NoRoom_init : Stmt := inClass (top 4) 0
abbrev s_NoSlot_init : Stmt := inClass (top 5) 0
abbrev s_Full_init : Stmt := inClass (top 6) 0
abbrev s_is_whole : Stmt := top 12
abbrev s_is_key : Stmt := top 13
abbrev s_is_number : Stmt := top 14
abbrev s_are_rows : Stmt := top 15
abbrev s_are_bounds : Stmt := top 16
abbrev s_is_leaf : Stmt := top 17
abbrev s_is_bough : Stmt := top 18
abbrev s_is_record : Stmt := top 20
abbrev s_look_at_most : Stmt := top 23
abbrev s_least_free : Stmt := top 24
abbrev s_Store_init : Stmt := inClass (top 25) 0
abbrev s_Store_look_at_room : Stmt := inClass (top 25) 1
abbrev s_Store_look_at_slot : Stmt := inClass (top 25) 2
abbrev s_Store_look_at_free : Stmt := inClass (top 25) 3
abbrev s_Store_put_in : Stmt := inClass (top 25) 4
abbrev s_Store_new_slot : Stmt := inClass (top 25) 7
abbrev s_Store_load : Stmt := inClass (top 25) 8
abbrev s_Store_drop : Stmt := inClass (top 25) 9
abbrev s_Store_swap : Stmt := inClass (top 25) 10
abbrev s_Store_rooms : Stmt := inClass (top 25) 11
abbrev s_Store_heads : Stmt := inClass (top 25) 12
abbrev s_Store___len__ : Stmt := inClass (top 25) 15
abbrev s_pool : Stmt := top 27
abbrev s_take : Stmt := top 28
abbrev s_is_slot : Stmt := top 29
abbrev s_key : Stmt := top 30
abbrev s_number : Stmt := top 31
abbrev s_value : Stmt := top 32
abbrev s_drawn_base : Stmt := top 33
abbrev s_drawn_record : Stmt := top 34
abbrev s_done : Stmt := top 35
abbrev s_due : Stmt := top 36
abbrev s_some : Stmt := top 37
abbrev s_law : Stmt := top 38
abbrev n_NoSize_init : List Str := ["self", "word"]
abbrev n_NoRoom_init : List Str := ["self", "room"]
abbrev n_NoSlot_init : List Str := ["self", "slot"]
abbrev n_Full_init : List Str := ["self", "many"]
abbrev n_is_whole : List Str := ["thing"]
abbrev n_is_key : List Str := ["thing"]
abbrev n_is_number : List Str := ["thing"]
abbrev n_are_rows : List Str := ["thing", "low", "high", "keys", "row", "one", "other"]
abbrev n_are_bounds : List Str := ["low", "high", "right"]
abbrev n_is_leaf : List Str := ["thing", "key", "value"]
abbrev n_is_bough : List Str := ["thing", "key", "slot"]
abbrev n_is_record : List Str := ["thing", "word", "parts", "is_fit", "part"]
abbrev n_look_at_most : List Str := ["most"]
abbrev n_least_free : List Str := ["taken", "found"]
abbrev n_Store_init : List Str := ["self", "most"]
abbrev n_Store_look_at_room : List Str := ["self", "room"]
abbrev n_Store_look_at_slot : List Str := ["self", "slot"]
abbrev n_Store_look_at_free : List Str := ["self", "many"]
abbrev n_Store_put_in : List Str := ["self", "record", "room"]
abbrev n_Store_new_slot : List Str := ["self", "head", "slot"]
abbrev n_Store_load : List Str := ["self", "slot"]
abbrev n_Store_drop : List Str := ["self", "slot"]
abbrev n_Store_swap : List Str := ["self", "slot", "old", "new"]
abbrev n_Store_rooms : List Str := ["self", "room"]
abbrev n_Store_heads : List Str := ["self", "slot"]
abbrev n_Store___len__ : List Str := ["self"]
abbrev n_pool : List Str := ["_law_script", "_law_k", "_law_cell", "_law_seed"]
abbrev n_take : List Str := ["_law_pool_here", "_law_many", "_law_found"]
abbrev n_is_slot : List Str := ["_law_thing"]
abbrev n_key : List Str := ["_law_pool_here"]
abbrev n_number : List Str := ["_law_pool_here"]
abbrev n_value : List Str := ["_law_pool_here"]
abbrev n_drawn_base : List Str := ["_law_pool_here", "_law_word", "_law_first", "_law_keys", "_law_k", "_law_end", "_law_beside", "_law_rows", "_law_key_here"]
abbrev n_drawn_record : List Str := ["_law_pool_here", "_law_words", "_law_word"]
abbrev n_done : List Str := ["_law_store", "_law_way", "_law_thing", "_law_old", "_law_room", "_law_found", "e"]
abbrev n_due : List Str := ["_law_own", "_law_many", "_law_way", "_law_thing", "_law_old", "_law_room", "_law_slot", "_law_k"]
abbrev n_some : List Str := ["_law_pool_here", "_law_size"]
abbrev n_law : List Str := ["_law_script", "_law_pool_here", "_law_store", "_law_many", "_law_records", "_law_record", "_law_own", "_law_k", "_law_way", "_law_thing", "_law_old", "_law_room", "_law_due_here", "_law_found", "_law_turn"]
theorem sc_NoSize_init : FnScope n_NoSize_init ["self", "word"] (defScope s_NoSize_init) := ⟨rfl, rfl, rfl, by decide +kernel, rfl, by decide +kernel, by decide +kernel⟩
theorem sc_NoRoom_init : FnScope n_NoRoom_init ["self", "room"] (defScope s_NoRoom_init) := ⟨rfl, rfl, rfl, by decide +kernel, rfl, by decide +kernel, by decide +kernel⟩
theorem sc_NoSlot_init : FnScope n_NoSlot_init ["self", "slot"] (defScope s_NoSlot_init) := ⟨rfl, rfl, rfl, by decide +kernel, rfl, by decide +kernel, by decide +kernel⟩
theorem sc_Full_init : FnScope n_Full_init ["self", "many"] (defScope s_Full_init) := ⟨rfl, rfl, rfl, by decide +kernel, rfl, by decide +kernel, by decide +kernel⟩
theorem sc_is_whole : FnScope n_is_whole ["thing"] (defScope s_is_whole) := ⟨rfl, rfl, rfl, by decide +kernel, rfl, by decide +kernel, by decide +kernel⟩
theorem sc_is_key : FnScope n_is_key ["thing"] (defScope s_is_key) := ⟨rfl, rfl, rfl, by decide +kernel, rfl, by decide +kernel, by decide +kernel⟩
theorem sc_is_number : FnScope n_is_number ["thing"] (defScope s_is_number) := ⟨rfl, rfl, rfl, by decide +kernel, rfl, by decide +kernel, by decide +kernel⟩
theorem sc_are_rows : FnScope n_are_rows ["thing", "low", "high"] (defScope s_are_rows) := ⟨rfl, rfl, rfl, by decide +kernel, rfl, by decide +kernel, by decide +kernel⟩
theorem sc_are_bounds : FnScope n_are_bounds ["low", "high", "right"] (defScope s_are_bounds) := ⟨rfl, rfl, rfl, by decide +kernel, rfl, by decide +kernel, by decide +kernel⟩
theorem sc_is_leaf : FnScope n_is_leaf ["thing"] (defScope s_is_leaf) := ⟨rfl, rfl, rfl, by decide +kernel, rfl, by decide +kernel, by decide +kernel⟩
theorem sc_is_bough : FnScope n_is_bough ["thing"] (defScope s_is_bough) := ⟨rfl, rfl, rfl, by decide +kernel, rfl, by decide +kernel, by decide +kernel⟩
theorem sc_is_record : FnScope n_is_record ["thing"] (defScope s_is_record) := ⟨rfl, rfl, rfl, by decide +kernel, rfl, by decide +kernel, by decide +kernel⟩
theorem sc_look_at_most : FnScope n_look_at_most ["most"] (defScope s_look_at_most) := ⟨rfl, rfl, rfl, by decide +kernel, rfl, by decide +kernel, by decide +kernel⟩
theorem sc_least_free : FnScope n_least_free ["taken"] (defScope s_least_free) := ⟨rfl, rfl, rfl, by decide +kernel, rfl, by decide +kernel, by decide +kernel⟩
theorem sc_Store_init : FnScope n_Store_init ["self", "most"] (defScope s_Store_init) := ⟨rfl, rfl, rfl, by decide +kernel, rfl, by decide +kernel, by decide +kernel⟩
theorem sc_Store_look_at_room : FnScope n_Store_look_at_room ["self", "room"] (defScope s_Store_look_at_room) := ⟨rfl, rfl, rfl, by decide +kernel, rfl, by decide +kernel, by decide +kernel⟩
theorem sc_Store_look_at_slot : FnScope n_Store_look_at_slot ["self", "slot"] (defScope s_Store_look_at_slot) := ⟨rfl, rfl, rfl, by decide +kernel, rfl, by decide +kernel, by decide +kernel⟩
theorem sc_Store_look_at_free : FnScope n_Store_look_at_free ["self", "many"] (defScope s_Store_look_at_free) := ⟨rfl, rfl, rfl, by decide +kernel, rfl, by decide +kernel, by decide +kernel⟩
theorem sc_Store_put_in : FnScope n_Store_put_in ["self", "record"] (defScope s_Store_put_in) := ⟨rfl, rfl, rfl, by decide +kernel, rfl, by decide +kernel, by decide +kernel⟩
theorem sc_Store_new_slot : FnScope n_Store_new_slot ["self", "head"] (defScope s_Store_new_slot) := ⟨rfl, rfl, rfl, by decide +kernel, rfl, by decide +kernel, by decide +kernel⟩
theorem sc_Store_load : FnScope n_Store_load ["self", "slot"] (defScope s_Store_load) := ⟨rfl, rfl, rfl, by decide +kernel, rfl, by decide +kernel, by decide +kernel⟩
theorem sc_Store_drop : FnScope n_Store_drop ["self", "slot"] (defScope s_Store_drop) := ⟨rfl, rfl, rfl, by decide +kernel, rfl, by decide +kernel, by decide +kernel⟩
theorem sc_Store_swap : FnScope n_Store_swap ["self", "slot", "old", "new"] (defScope s_Store_swap) := ⟨rfl, rfl, rfl, by decide +kernel, rfl, by decide +kernel, by decide +kernel⟩
theorem sc_Store_rooms : FnScope n_Store_rooms ["self"] (defScope s_Store_rooms) := ⟨rfl, rfl, rfl, by decide +kernel, rfl, by decide +kernel, by decide +kernel⟩
theorem sc_Store_heads : FnScope n_Store_heads ["self"] (defScope s_Store_heads) := ⟨rfl, rfl, rfl, by decide +kernel, rfl, by decide +kernel, by decide +kernel⟩
theorem sc_Store___len__ : FnScope n_Store___len__ ["self"] (defScope s_Store___len__) := ⟨rfl, rfl, rfl, by decide +kernel, rfl, by decide +kernel, by decide +kernel⟩
theorem sc_pool : FnScope n_pool ["_law_script", "_law_k"] (defScope s_pool) := ⟨rfl, rfl, rfl, by decide +kernel, rfl, by decide +kernel, by decide +kernel⟩
theorem sc_take : FnScope n_take ["_law_pool_here", "_law_many"] (defScope s_take) := ⟨rfl, rfl, rfl, by decide +kernel, rfl, by decide +kernel, by decide +kernel⟩
theorem sc_is_slot : FnScope n_is_slot ["_law_thing"] (defScope s_is_slot) := ⟨rfl, rfl, rfl, by decide +kernel, rfl, by decide +kernel, by decide +kernel⟩
theorem sc_key : FnScope n_key ["_law_pool_here"] (defScope s_key) := ⟨rfl, rfl, rfl, by decide +kernel, rfl, by decide +kernel, by decide +kernel⟩
theorem sc_number : FnScope n_number ["_law_pool_here"] (defScope s_number) := ⟨rfl, rfl, rfl, by decide +kernel, rfl, by decide +kernel, by decide +kernel⟩
theorem sc_value : FnScope n_value ["_law_pool_here"] (defScope s_value) := ⟨rfl, rfl, rfl, by decide +kernel, rfl, by decide +kernel, by decide +kernel⟩
theorem sc_drawn_base : FnScope n_drawn_base ["_law_pool_here", "_law_word"] (defScope s_drawn_base) := ⟨rfl, rfl, rfl, by decide +kernel, rfl, by decide +kernel, by decide +kernel⟩
theorem sc_drawn_record : FnScope n_drawn_record ["_law_pool_here"] (defScope s_drawn_record) := ⟨rfl, rfl, rfl, by decide +kernel, rfl, by decide +kernel, by decide +kernel⟩
theorem sc_done : FnScope n_done ["_law_store", "_law_way", "_law_thing", "_law_old", "_law_room"] (defScope s_done) := ⟨rfl, rfl, rfl, by decide +kernel, rfl, by decide +kernel, by decide +kernel⟩
theorem sc_due : FnScope n_due ["_law_own", "_law_many", "_law_way", "_law_thing", "_law_old", "_law_room"] (defScope s_due) := ⟨rfl, rfl, rfl, by decide +kernel, rfl, by decide +kernel, by decide +kernel⟩
theorem sc_some : FnScope n_some ["_law_pool_here", "_law_size"] (defScope s_some) := ⟨rfl, rfl, rfl, by decide +kernel, rfl, by decide +kernel, by decide +kernel⟩
theorem sc_law : FnScope n_law ["_law_script"] (defScope s_law) := ⟨rfl, rfl, rfl, by decide +kernel, rfl, by decide +kernel, by decide +kernel⟩
/-! ### a cut: what stands between a statement and the rest, said once -/
structure Cut (t u : TS) (D : Ends) (σ : St) (H : Hp) : Prop where
  ex : ∃ Mid : St → Hp → Prop, t { D with nx := Mid } σ H ∧ ∀ σ' H', Mid σ' H' → u D σ' H'
theorem cutAt {X : Cx} {st : Stmt} {rest : List Stmt} {t u : TS} (h1 : PS X st t) (h2 : PSs X rest u) : PSs X (st :: rest) (Cut t u) := by
  constructor
  intro pins s σ H D I h
  obtain ⟨Mid, a, b⟩ := h.ex
  apply wpAny_execs_cons
  refine thn (h1.run pins s σ H { D with nx := Mid } I a) ?_
  intro f s1 q
  match f, q with
  | .next, ⟨σ', H', I', m⟩ => exact h2.run pins s1 σ' H' D I' (b σ' H' m)
  | .ret _, q => exact q
  | .brk, q => exact q
  | .cont, q => exact q
theorem un_upd {H : Hp} {a b : Addr} {o : HO} (h : upd H a o b = none) : b ≠ a ∧ H b = none := by
  have n : b ≠ a := fun e => by rw [e, upd_same] at h; cases h
  exact ⟨n, by rwa [upd_ne n] at h⟩
theorem same_upd {H H' : Hp} {a : Addr} {o : HO} (s : Same H H') (h : H a = none) : Same H (upd H' a o) := fun b u e => by
  rw [upd_ne (ne_of_none e h)]; exact s b u e
theorem same_new {H : Hp} {a : Addr} {o : HO} (h : H a = none) : Same H (upd H a o) := same_upd (Same.refl H) h
/-- d[k] = v as one of several targets -/
theorem set_dict {X : Cx} (hu : X.A.units + 1 < cLine) : PSet X (fun o i v H Q => ∃ a H', o = .ref a ∧ DPut H a i v H' ∧ Q H') := by
  intro pins s σ H o i v ov iv u Q I ro ri rv h
  obtain ⟨a, H', rfl, g, q⟩ := h
  cases ro
  exact d_setItem hu I g ri rv fun s' J => ⟨H', J, q⟩
/-- behind i turns of a comprehension that touches nothing that stood: S i is what stands in the new list -/
structure CP (H1 : Hp) (D : Addr) (S : Nat → List V) (i : Nat) (H : Hp) : Prop where
  fr : H1 D = none
  sm : Same H1 H
  at_ : H D = some (.lst (S i))
section
variable {H1 H H' : Hp} {D : Addr} {S : Nat → List V} {i : Nat} {y : V}
theorem CP.start (hD : H1 D = none) (h0 : S 0 = []) : CP H1 D S 0 (upd H1 D (.lst [])) := ⟨hD, same_new hD, by rw [h0]; exact upd_same⟩
theorem CP.push (c : CP H1 D S i H) (s : Same H H') (e : S (i + 1) = S i ++ [y]) : CP H1 D S (i + 1) (upd H' D (.lst (S i ++ [y]))) :=
  ⟨c.fr, same_upd (c.sm.trans s) c.fr, by rw [e]; exact upd_same⟩
theorem CP.skip (c : CP H1 D S i H) (s : Same H H') (e : S (i + 1) = S i) : CP H1 D S (i + 1) H' := ⟨c.fr, c.sm.trans s, by rw [e]; exact s _ _ c.at_⟩
end
theorem Paired.at {α β : Type} {F : α → β → Prop} : ∀ {l : List α} {r : List β} {i : Nat} {x : α}, Paired F l r → l[i]? = some x → ∃ y, r[i]? = some y ∧ F x y
  | _, _, _, _, .nil, e => by simp at e
  | _, _, 0, _, .cons f _, e => by simp at e; subst e; exact ⟨_, rfl, f⟩
  | _, _, i + 1, x, .cons _ t, e => by
    obtain ⟨y, e1, e2⟩ := Paired.at (i := i) (x := x) t (by simpa using e)
    exact ⟨y, by simpa using e1, e2⟩
theorem take_snoc {α : Type} {l : List α} {i : Nat} {x : α} (h : l[i]? = some x) : l.take (i + 1) = l.take i ++ [x] := by
  rw [List.take_add_one, h]; rfl
/-! ### places where a reading is taken up by hand: "go" stops there -/
structure Wrap (p : Prop) : Prop where
  ex : p
theorem pi_w {X : Cx} {tg iter : Expr} {wi : TI} (h : PI X tg iter wi) : PI X tg iter (fun σ H R => wi σ H fun J H1 => Wrap (R J H1)) := by
  refine ⟨fun pins s σ H R I hw => ?_⟩
  refine thn (h.run pins s σ H _ I hw) fun v s1 a => thn a fun itv s2 b => ?_
  obtain ⟨it, fp, tn, J, H', e, I2, T, st, f, r⟩ := b
  exact ⟨it, fp, tn, J, H', e, I2, T, st, f, r.ex⟩
theorem pe_lk {X : Cx} {e : Expr} {t : TE} (h : PE X e t) : PE X e (fun σ H Q => Wrap (tLockE t σ H Q)) :=
  ⟨fun pins s σ H Q I hw => (pe_lock h).run pins s σ H Q I hw.ex⟩
theorem ps_lk {X : Cx} {st : Stmt} {t : TS} (h : PS X st t) : PS X st (fun D σ H => Wrap (tLock t D σ H)) :=
  ⟨fun pins s σ H D I hw => (ps_lock h).run pins s σ H D I hw.ex⟩
/-! ### within a comprehension's block: what is read is said over the def's own context -/
theorem viaE {X : Cx} {e : Expr} {t t' : TE} (h : PE X e t) (q : t = t') : PE X e t' := q ▸ h
theorem viaT {X : Cx} {es : List Expr} {t t' : TT} (h : PTs X es t) (q : t = t') : PTs X es t' := q ▸ h
theorem viaG {X : Cx} {e : Expr} {t t' : TG} (h : PG X e t) (q : t = t') : PG X e t' := q ▸ h
theorem then_ {c : Bool} {A B : Prop} (h : c = true) (a : A) : if c = true then A else B := by rw [if_pos h]; exact a
theorem else_ {c : Bool} {A B : Prop} (h : c = false) (b : B) : if c = true then A else B := by rw [h]; exact b
theorem by2 {c : Bool} {A B : Prop} (h1 : c = true → A) (h2 : c = false → B) : if c = true then A else B := by
  cases c with
  | true => exact h1 rfl
  | false => exact h2 rfl
theorem fm_yes {α β : Type} {ws : List α} {f : α → Bool} {g : α → β} {j : Nat} {x : α} (h : ws[j]? = some x) (c : f x = true) : ((ws.take (j + 1)).filter f).map g = ((ws.take j).filter f).map g ++ [g x] := by
  rw [take_snoc h, List.filter_append, List.map_append, List.filter_cons, if_pos c]; rfl
theorem fm_no {α β : Type} {ws : List α} {f : α → Bool} {g : α → β} {j : Nat} {x : α} (h : ws[j]? = some x) (c : f x = false) : ((ws.take (j + 1)).filter f).map g = ((ws.take j).filter f).map g := by
  rw [take_snoc h, List.filter_append, List.map_append, List.filter_cons, if_neg (by simp [c])]
  show _ ++ [] = _; rw [List.append_nil]
theorem Paired.snoc {α β : Type} {F : α → β → Prop} : ∀ {l : List α} {r : List β} {x : α} {y : β}, Paired F l r → F x y → Paired F (l ++ [x]) (r ++ [y])
  | _, _, _, _, .nil, f => .cons f .nil
  | _, _, _, _, .cons g t, f => .cons g (Paired.snoc t f)
theorem walk_upto {n : Nat} : Walk (Itr 0 n) n (fun _ => True) (YFn fun i => .int (i : Nat)) :=
  walk_range.mono (fun _ h => h) fun i H x H' _ _ h => by
    obtain ⟨h1, h2⟩ := h
    refine ⟨h1, h2.trans ?_⟩
    show V.int (0 + (i : Int)) = V.int i
    rw [Int.zero_add]
/-- an if whose test comes out as b, the heap as it was -/
theorem ifS {tc : TT} {t u : TS} {D : Ends} {σ : St} {H : Hp} (b : Bool) (h : ∀ Q : Bool → Hp → Prop, Q b H → tc σ H Q) (h1 : b = true → t D σ H) (h2 : b = false → u D σ H) : tIfS tc t u D σ H :=
  h _ (by
    cases b with
    | true => exact h1 rfl
    | false => exact h2 rfl)
theorem andQ {a b : Bool} {Q : Bool → Hp → Prop} {H : Hp} {u : Prop} (h : Q (a && b) H) (hu : a = true → Q b H → u) : if a = true then u else Q false H := by
  cases a with
  | true => exact hu rfl h
  | false => exact h
theorem dec_v {i j : Int} : decide (V.int i = V.int j) = decide (i = j) := by simp
theorem map_set_same {α β : Type} {l : List α} {j : Nat} {x y : α} {f : α → β} (h : l[j]? = some x) (e : f y = f x) : (l.set j y).map f = l.map f := by
  apply List.ext_getElem?
  intro n
  rw [List.getElem?_map, List.getElem?_map, List.getElem?_set]
  by_cases c : j = n
  · subst c
    obtain ⟨hl, _⟩ := List.getElem?_eq_some_iff.mp h
    rw [if_pos rfl, if_pos hl, h]
    exact congrArg some e
  · rw [if_neg c]
/-! ### a dict that a call has made, walked: it is locked once it stands, and never let go -/
def tSeal (t : TE) : TE := fun σ H Q => t σ H fun x H1 => ∃ d kvs, x = .ref d ∧ H1 d = some (.dK kvs) ∧ ∀ od, Q x (upd H1 d (.frz od (.dK kvs)))
theorem pe_seal {X : Cx} {e : Expr} {t : TE} (h : PE X e t) : PE X e (tSeal t) := by
  refine ⟨fun pins s σ H Q I hw => ?_⟩
  refine thn (h.run pins s σ H _ I hw) fun v s1 ⟨x, H1, I1, r, d, kvs, ex, hd, q⟩ => ?_
  obtain ⟨od, I2⟩ := I1.lock hd True.intro
  exact ⟨x, _, I2, r, q od⟩
theorem viaS {X : Cx} {l : List Stmt} {t t' : TS} (h : PSs X l t) (q : t = t') : PSs X l t' := q ▸ h
/-! ### tactics: "arith" and "fact" close a side condition, "hp" looks an object up, "ne" parts two addresses, "go" steps through a reading as far as equations and known facts lead -/
local macro_rules | `(tactic| walk_at "arith") => `(tactic| first
  | omega
  | (dsimp only; omega)
  | exact Nat.le_of_ble_eq_true rfl
  | decide
  | exact ⟨by omega, by omega⟩
  | exact Or.inl ⟨by omega, by omega⟩
  | exact Or.inr ⟨by omega, by omega⟩
  | exact ⟨by omega, by omega, by omega, by omega⟩)
local macro_rules | `(tactic| walk_at "ne") => `(tactic| first
  | (with_reducible assumption)
  | (apply Ne.symm; with_reducible assumption)
  | exact ne_of_none (by assumption) (by assumption)
  | exact Ne.symm (ne_of_none (by assumption) (by assumption)))
local macro_rules | `(tactic| walk_at "hp") => `(tactic| first
  | (with_reducible assumption)
  | (with_reducible exact upd_same)
  | ((with_reducible apply Eq.trans (upd_ne (by walk_at "ne"))); walk_at "hp"))
local macro_rules | `(tactic| walk_at "fact") => `(tactic| first
  | apply Eq.refl
  | (with_reducible assumption)
  | ((with_reducible apply SqL.of); walk_at "hp")
  | ((with_reducible apply SqT.of); walk_at "hp")
  | ((with_reducible apply Or.inl); (with_reducible apply SqL.of); walk_at "hp")
  | ((with_reducible apply Or.inr); (with_reducible apply SqT.of); walk_at "hp")
  | walk_at "hp"
  | ((with_reducible apply Rd.of); walk_at "hp")
  | ((with_reducible show tyV _ _ _ _); exact Or.inl ⟨rfl, _, SqL.of (by walk_at "hp")⟩)
  | ((with_reducible show tyV _ _ _ _); exact Or.inr (Or.inr (Or.inl ⟨rfl, Or.inl ⟨_, by walk_at "hp"⟩⟩)))
  | ((with_reducible show IsD _ _); exact Or.inl ⟨_, Or.inl (by walk_at "hp")⟩)
  | ((with_reducible show SqL _ _ _ _); assumption)
  | ((with_reducible show SqT _ _ _ _); assumption)
  | ((with_reducible show SqL _ _ _ _ ∨ _); apply Or.inl; assumption)
  | ((with_reducible show SqL _ _ _ _ ∨ _); apply Or.inr; assumption)
  | ((with_reducible show ∃ xs, SqL _ _ _ xs); apply Exists.intro; first | (apply SqL.of; walk_at "hp") | assumption)
  | ((with_reducible show ∃ xs, SqT _ _ _ xs); apply Exists.intro; first | (apply SqT.of; walk_at "hp") | assumption)
  | walk_at "arith"
  | assumption)
local macro_rules | `(tactic| walk_at "go1") => `(tactic| first
  | apply Exists.intro
  | (apply And.intro; focus (walk_at "fact")))
local macro_rules | `(tactic| walk_at "go") => `(tactic| repeat (walk_at "go1"))
local macro_rules | `(tactic| walk_at "x_then") => `(tactic| ((with_reducible refine then_ ?_ ?_); focus (first | rfl | assumption | (simp; done))))
local macro_rules | `(tactic| walk_at "x_else") => `(tactic| ((with_reducible refine else_ ?_ ?_); focus (first | rfl | assumption | (simp; done))))
/-! ### tactics of the layer without addresses: "sp" looks an object up, "vf" closes a known part, "v" steps -/
local macro_rules | `(tactic| walk_at "sne") => `(tactic| first
  | (with_reducible assumption)
  | (apply Ne.symm; with_reducible assumption)
  | exact VW.sne_of (by assumption) (by assumption)
  | exact Ne.symm (VW.sne_of (by assumption) (by assumption)))
local macro_rules | `(tactic| walk_at "sp") => `(tactic| first
  | (with_reducible assumption)
  | (with_reducible exact VW.sup_same)
  | ((with_reducible apply Eq.trans (VW.sup_ne (by walk_at "sne"))); walk_at "sp")
  | ((with_reducible apply Eq.trans (VW.sdel_ne (by walk_at "sne"))); walk_at "sp"))
local macro_rules | `(tactic| walk_at "sq") => `(tactic| first
  | (with_reducible assumption)
  | exact Or.inl rfl
  | exact Or.inr (Or.inl ⟨_, rfl, by walk_at "sp"⟩)
  | exact Or.inr (Or.inr rfl)
  | exact Or.inr ⟨_, rfl, by walk_at "sp"⟩)
local macro_rules | `(tactic| walk_at "vf") => `(tactic| first
  | apply Eq.refl
  | (with_reducible assumption)
  | ((with_reducible show VW.SeqL _ _ _); walk_at "sq")
  | ((with_reducible show VW.SeqW _ _ _); walk_at "sq")
  | ((with_reducible show VW.Ins _ _ _ _); walk_at "sq")
  | ((with_reducible show VW.DicK _ _ _); walk_at "sq")
  | ((with_reducible show VW.TyIs _ _ _); first | exact Or.inl ⟨rfl, _, by walk_at "sq"⟩ | exact Or.inr ⟨rfl, _, rfl⟩)
  | ((with_reducible show VW.LenS _ _ _); first | exact Or.inl ⟨_, by walk_at "sq", rfl⟩ | exact Or.inr (Or.inl ⟨_, rfl, rfl⟩) | exact Or.inr (Or.inr (Or.inl ⟨_, rfl, by walk_at "arith", rfl⟩)) | exact Or.inr (Or.inr (Or.inr ⟨_, by walk_at "sq", rfl⟩)))
  | ((with_reducible show VW.IsDic _ _); exact Or.inl ⟨_, by walk_at "sq"⟩)
  | ((with_reducible show VW.DGot _ _ _ _); exact VW.dgotI (by walk_at "sq"))
  | ((with_reducible show VW.DGot _ _ _ _); exact Or.inl ⟨_, _, by walk_at "sq", rfl, rfl⟩)
  | ((with_reducible show VW.DPutD _ _ _ _ _); first | exact VW.dputI (by walk_at "sp") (by first | assumption | walk_at "arith") | exact VW.dputI0 (by walk_at "sp"))
  | ((with_reducible show VW.DPopD _ _ _ _ _); exact VW.dpopI (by walk_at "sp") (by assumption))
  | ((with_reducible show VW.IntOf _ _); first | exact VW.IntOf.int _ | exact VW.IntOf.bl _)
  | ((with_reducible show VW.SqS _ _ _); first | exact Or.inl (by walk_at "sq") | exact Or.inr rfl)
  | ((with_reducible show VW.LstS _ _ _); first | exact Or.inl (by walk_at "sq") | exact Or.inr (Or.inl rfl) | exact Or.inr (Or.inr ⟨_, by walk_at "sq", rfl⟩))
  | ((with_reducible show VW.EqS _ _ _); first | exact VW.EqS.int _ _ | exact VW.EqS.str _ _ | exact VW.EqS.bl _ _)
  | ((with_reducible show VW.IxS _ _ _ _); first | exact VW.IxS.lst (by walk_at "sq") (by first | assumption | (apply Eq.refl)) | exact VW.IxS.tup (by first | assumption | (apply Eq.refl)))
  | walk_at "sp"
  | walk_at "arith"
  | assumption)
local macro_rules | `(tactic| walk_at "v1") => `(tactic| first
  | apply Exists.intro
  | (apply And.intro; focus (walk_at "vf")))
local macro_rules | `(tactic| walk_at "v") => `(tactic| repeat (walk_at "v1"))
/-- an error of the class at S is what «except S» names -/
theorem exm_self {K : PySem.W.Frag} {S : Addr} (h1 : PySem.W.subIn K (.ref S) (.type "BaseException") = some true) (h2 : PySem.W.isClsIn K S = true) (h3 : PySem.W.typeIn K (.ref S) = some (.type "type")) (h4 : PySem.W.subIn K (.ref S) (.ref S) = some true) :
    PySem.W.exmOne K (.ref S) (.ref S) = some true := by
  have e1 : (PySem.W.subIn K (.ref S) (.type "BaseException") == some true) = true := by rw [h1] <;> rfl
  have e2 : ((PySem.W.clsIn K S).isSome && PySem.W.typeIn K (.ref S) == some (.type "type")) = true := by
    have h2' : (PySem.W.clsIn K S).isSome = true := h2
    rw [h2', h3] <;> rfl
  show (if (PySem.W.subIn K (.ref S) (.type "BaseException") == some true) = true then (if ((PySem.W.clsIn K S).isSome && PySem.W.typeIn K (.ref S) == some (.type "type")) = true then PySem.W.subIn K (.ref S) (.ref S) else none) else none) = some true
  rw [if_pos e1, if_pos e2]
  exact h4
theorem exm_pair {K : PySem.W.Frag} {S C : Addr} {b : Bool} (h1 : PySem.W.subIn K (.ref S) (.type "BaseException") = some true) (h2 : PySem.W.isClsIn K S = true) (h3 : PySem.W.typeIn K (.ref S) = some (.type "type")) (h4 : PySem.W.subIn K (.ref C) (.ref S) = some b) :
    PySem.W.exmOne K (.ref C) (.ref S) = some b := by
  have e1 : (PySem.W.subIn K (.ref S) (.type "BaseException") == some true) = true := by rw [h1] <;> rfl
  have e2 : ((PySem.W.clsIn K S).isSome && PySem.W.typeIn K (.ref S) == some (.type "type")) = true := by
    have h2' : (PySem.W.clsIn K S).isSome = true := h2
    rw [h2', h3] <;> rfl
  show (if (PySem.W.subIn K (.ref S) (.type "BaseException") == some true) = true then (if ((PySem.W.clsIn K S).isSome && PySem.W.typeIn K (.ref S) == some (.type "type")) = true then PySem.W.subIn K (.ref C) (.ref S) else none) else none) = some b
  rw [if_pos e1, if_pos e2]
  exact h4

/-! ### data that == looks at, flat -/
theorem dp_ints {K : PySem.W.Frag} {H : Hp} : ∀ ns : List Int, DpAll K H (ns.map V.int) (ns.map PyData.int)
  | [] => .nil
  | n :: r => .cons (.int n) (dp_ints r)
theorem lay_ints : ∀ ns : List Int, PyData.canLayAll0 (ns.map PyData.int) = true ∧ PyData.depthAll (ns.map PyData.int) = 0
  | [] => ⟨rfl, rfl⟩
  | n :: r => by
    obtain ⟨a, b⟩ := lay_ints r
    rw [List.map_cons, PyData.canLayAll0, PyData.depthAll, a, b]
    exact ⟨rfl, rfl⟩
theorem shaped_ints (ns : List Int) : SeqAt.shaped (.list (ns.map PyData.int)) = true := by
  obtain ⟨a, b⟩ := lay_ints ns
  unfold SeqAt.shaped
  rw [PyData.canLay0, PyData.depth, a, b]
  rfl
theorem can_ints (ns : List Int) : (PyData.list (ns.map PyData.int)).canLay0 = true := by
  rw [PyData.canLay0, (lay_ints ns).1]
/-! ### dicts: an entry at its place -/
section
variable {κ : Type} [DecidableEq κ]
theorem valV_at : ∀ {kvs : List (κ × V)} {j : Nat} {kv : κ × V}, (kvs.map (·.1)).Nodup → kvs[j]? = some kv → valV kvs kv.1 = some kv.2
  | [], _, _, _, h => by simp at h
  | p :: r, 0, kv, _, h => by
    have e : p = kv := Option.some.inj h
    subst e; exact valV_pos rfl
  | p :: r, j + 1, kv, nd, h => by
    have nd' : p.1 ∉ r.map (·.1) ∧ (r.map (·.1)).Nodup := List.nodup_cons.mp nd
    have h' : r[j]? = some kv := by simpa using h
    have ne : ¬ p.1 = kv.1 := fun e => nd'.1 (by rw [e]; exact List.mem_map_of_mem (List.mem_of_getElem? h'))
    rw [valV_neg ne]; exact valV_at nd'.2 h'
theorem valV_of_not {kvs : List (κ × V)} {k : κ} (h : k ∉ kvs.map (·.1)) : valV kvs k = none := by
  cases e : valV kvs k with
  | none => rfl
  | some v => exact (h (valV_in e)).elim
theorem putK_at {kvs : List (κ × V)} {j : Nat} {kv : κ × V} (v : V) (nd : (kvs.map (·.1)).Nodup) (h : kvs[j]? = some kv) : putK kvs kv.1 v = kvs.set j (kv.1, v) := by
  unfold putK
  rw [if_pos (by rw [valV_any, valV_at nd h]; rfl)]
  apply List.ext_getElem?
  intro i
  rw [List.getElem?_map, List.getElem?_set]
  by_cases e : j = i
  · subst e
    have hl : j < kvs.length := (List.getElem?_eq_some_iff.mp h).1
    rw [if_pos rfl, if_pos hl, h]; simp
  · rw [if_neg e]
    cases hi : kvs[i]? with
    | none => rfl
    | some x =>
      have ne : ¬ x.1 = kv.1 := fun q => e (nd_ix (l := kvs.map (·.1)) (x := kv.1) nd (by rw [List.getElem?_map, h]; rfl) (by rw [List.getElem?_map, hi]; exact congrArg some q))
      simp [ne]
end

/-! ### calls by keyword alone -/
theorem kb_of {K : PySem.W.Frag} {x qual : Str} {st : Stmt} {f : Addr} {fd : FuncData} {ps ks : List Str} {n : Nat} (F : Fun K x qual st f fd) (g : {α : Type} → List α → List α → List α)
    (h0 : ∀ {vs zs : List V} {us ws : List Value}, Vals vs us → Vals zs ws → Vals (g vs zs) (g us ws))
    (h : ∀ (kV doc pm : Value) (an : Option Addr) (cdv ct : Value) (us ws : List Value), us.length = n → ws.length = ks.length → bindArgs (PySem.W.fnOf x qual (defArgs st) (defBody st) (defScope st) .none kV doc pm an cdv ct) ⟨us, ks.zip ws⟩ = pure (ps.zip (g us ws))) :
    KBn K fd ps n ks g g := by
  obtain ⟨oc, od, kV, doc, pm, an, cdv, ct, osl, rfl, lk, hcd⟩ := F.ex
  exact ⟨fun s us ws X l1 l2 => .of_eq (h kV doc pm an cdv ct us ws l1 l2), fun r1 r2 => h0 r1 r2⟩
theorem pe_callK0 {X : Cx} {CX : CXT} {k : Nat} {f : Addr} {fd : FuncData} {ps ks : List Str} {sp : Sp} {E : XK} {x : Str} {p pos : Pos} {kws : List Keyword} {tk : TA} {g : List Value → List Value → List Value} {gV : List V → List V → List V}
    (F : FnOk X.prog X.w X.K X.mg X.base CX k f fd ps sp) (hr : Room k X.A) (hg : Gl X x) (hm : X.mg x = some (.ref f)) (hk : PySem.W.keepIn X.K (.ref f) = true) (hb : KBn X.K fd ps 0 ks g gV) (hx : Passes CX X E) (hkw : PK X kws tk)
    (hall : (backToKw pos (keywordEach kws X.env)).all (·.1.isSome) = true := by rfl) (hks : (backToKw pos (keywordEach kws X.env)).filterMap (·.1) = ks := by rfl) (hd : (x == ("__debug__" : Str)) = false := by decide)
    (hpl : ((backTo pos (starEach [] X.env)).any (·.1) || (backToKw pos (keywordEach kws X.env)).any (·.1.isNone)) = false := by rfl) :
    PE X (.Call (.Name x p) [] kws pos) (tCallN 0 ks.length sp gV E tNil tk) := by
  refine ⟨fun pins s σ H Q I h => ?_⟩
  refine wpAny_Call_Name_kw (ld_glob I hg hm (PySem.W.callWith_KW0 (h₀ := X.base) I.ok.mod.kin hk hall ?_ hpl) hd)
  refine thn (hkw.run pos pins s σ H _ I h) fun ws s2 ⟨zs, H2, I2, rz, _, l2, q⟩ => ⟨I2.kIn, ?_⟩
  rw [hks]
  exact run_fnN (us := []) (vs := []) F hr hb hx I2 .nil rz rfl l2 q
/-- one keyword-only parameter, left out: its default -/
theorem bd_kw {K : PySem.W.Frag} {x qual : Str} {st : Stmt} {D : Addr} {doc pm cdv ct : Value} {an : Option Addr} {ps : List Str} {k : Str} {u : Value} {n : Nat} (hn : PySem.W.nsIn K D k = some (some u)) (hps : ps.length = n + 1)
    (h : ∀ us : List Value, us.length = n → KwChain D [(k, u)] (bindArgs (PySem.W.fnOf x qual (defArgs st) (defBody st) (defScope st) .none (.ref D) doc pm an cdv ct) ⟨us, []⟩) (ps.zip (us ++ [u]))) :
    Binds K (PySem.W.fnOf x qual (defArgs st) (defBody st) (defScope st) .none (.ref D) doc pm an cdv ct) ps [u] := fun s us X hl =>
  BindsTo.of_looks fun M => KwChain.looks X (fun q hq => by rw [List.mem_singleton.mp hq]; exact hn) (h us (by rw [List.length_append, hps] at hl; exact Nat.succ.inj hl))

/-! ### t != (), t == (): a tuple of any items beside an empty one -/
section
variable {X : Cx}
def rNeT0 (K : PySem.W.Frag) : R2 := fun x y H Q => ∃ a b xs, x = .ref a ∧ y = .ref b ∧ SqT K H a xs ∧ SqT K H b [] ∧ Q (.bl (!decide (xs = []))) H
def rEqT0 (K : PySem.W.Frag) : R2 := fun x y H Q => ∃ a b xs, x = .ref a ∧ y = .ref b ∧ SqT K H a xs ∧ SqT K H b [] ∧ Q (.bl (decide (xs = []))) H
theorem size0 {xs : List V} {its : List Value} (r : Vals xs its) : (its.toArray.size == (#[] : Array Value).size) = decide (xs = []) := by
  cases r with
  | nil => rfl
  | cons _ _ => simp
theorem op_neT0 (hu : X.A.units + 64 < cLine) : OpR X (compareOp .NotEq) (rNeT0 X.K) := by
  intro pins s σ H x y v u Q I rx ry h
  obtain ⟨a, b, xs, rfl, rfl, ha, hb, q⟩ := h
  cases rx
  cases ry
  obtain ⟨its, r1, p1, _⟩ := I.tuple ha
  obtain ⟨its2, r2, p2, _⟩ := I.tuple hb
  cases r2
  refine SeqAt.RcNeAt.tuples (e := fun _ => true) p1 p2 (by omega) (fun j h1 h2 => absurd h2 (by simp)) X.prog X.w _ _ ?_
  refine ⟨.bl (!decide (xs = [])), H, I, ?_, q⟩
  show _ = _
  rw [← size0 r1, List.all_eq_true.mpr fun _ _ => rfl, Bool.true_and]
theorem op_eqT0 (hu : X.A.units + 64 < cLine) : OpR X (compareOp .Eq) (rEqT0 X.K) := by
  intro pins s σ H x y v u Q I rx ry h
  obtain ⟨a, b, xs, rfl, rfl, ha, hb, q⟩ := h
  cases rx
  cases ry
  obtain ⟨its, r1, p1, _⟩ := I.tuple ha
  obtain ⟨its2, r2, p2, _⟩ := I.tuple hb
  cases r2
  refine SeqAt.RcAt.tuples (e := fun _ => true) p1 p2 (by omega) (fun j h1 h2 => absurd h2 (by simp)) X.prog X.w _ _ ?_
  refine ⟨.bl (decide (xs = [])), H, I, ?_, q⟩
  show _ = _
  rw [← size0 r1, List.all_eq_true.mpr fun _ _ => rfl, Bool.true_and]
end

/-! ### a dict of the module: its keys texts, its values by name -/
def Keyed (P : Params) : List DictEntry → List (Str × Value) → Prop
  | [], [] => True
  | e :: r, p :: q => ((∃ t, e.key = .str p.1 t) ∧ e.hash = PyData.keyHash P p.1 ∧ e.val = p.2) ∧ Keyed P r q
  | _, _ => False
def lookS : List (Str × Value) → Str → Option Value
  | [], _ => none
  | p :: r, z => if p.1 = z then some p.2 else lookS r z
structure KdAt (K : PySem.W.Frag) (P : Params) (d : Addr) (kvs : List (Str × Value)) : Prop where
  ex : ∃ es n, K.lookup d = some ⟨.type "dict", none, .dict es n, #[]⟩ ∧ Keyed P es.toList kvs ∧ (d == sysModules) = false
theorem keyed_lit {P : Params} : ∀ {l : List DictEntry} {kvs : List (Str × Value)}, Keyed P l kvs → PySem.W.KeysLit P l
  | [], _, _ => trivial
  | e :: r, [], h => h.elim
  | e :: r, p :: q, ⟨⟨⟨t, h1⟩, h2, _⟩, h3⟩ => ⟨⟨p.1, t, h1, h2⟩, keyed_lit h3⟩
theorem keyed_find {P : Params} (z : Str) : ∀ {l : List DictEntry} {kvs : List (Str × Value)}, Keyed P l kvs → (l.find? (·.key.isStr z)).map (·.val) = lookS kvs z
  | [], [], _ => rfl
  | [], _ :: _, h => h.elim
  | e :: r, [], h => h.elim
  | e :: r, p :: q, ⟨⟨⟨t, h1⟩, h2, h3⟩, h4⟩ => by
    have ih := keyed_find z h4
    unfold lookS
    rw [List.find?_cons]
    by_cases c : p.1 = z
    · have e1 : e.key.isStr z = true := by rw [h1, c]; exact beq_self_eq_true z
      rw [if_pos c, e1, ← h3]; rfl
    · have e1 : e.key.isStr z = false := by rw [h1]; exact beq_eq_false_iff_ne.mpr c
      rw [if_neg c, e1]; exact ih
theorem keyed_any {P : Params} : ∀ {l : List DictEntry} {kvs : List (Str × Value)}, Keyed P l kvs → l.any (·.refKey) = false
  | [], [], _ => rfl
  | [], _ :: _, h => h.elim
  | e :: r, [], h => h.elim
  | e :: r, p :: q, ⟨⟨⟨t, h1⟩, h2, h3⟩, h4⟩ => by
    have ih := keyed_any h4
    have e1 : e.refKey = false := by unfold DictEntry.refKey; rw [h1]
    rw [List.any_cons, e1, ih]; rfl
theorem KdAt.kd {K : PySem.W.Frag} {w : World} {d : Addr} {kvs : List (Str × Value)} (h : KdAt K w.params d kvs) : ∃ es n, KDict K w d es n ∧ ∀ z, PySem.W.nsIn K d z = some (lookS kvs z) := by
  obtain ⟨es, n, h1, h2, h3⟩ := h.ex
  refine ⟨es, n, ⟨h1, keyed_lit h2, h3⟩, fun z => ?_⟩
  have e := keyed_find z h2
  unfold PySem.W.nsIn
  rw [h1]
  dsimp only
  cases q : es.toList.find? (·.key.isStr z) with
  | some en => rw [q] at e; exact congrArg some e
  | none =>
    rw [q] at e
    have e2 := keyed_any h2
    dsimp only
    rw [e2]
    exact congrArg some e
theorem kt_sq {K : PySem.W.Frag} {a : Addr} {xs : List V} {us : Array Value} {n : Nat} {dd : Option Addr} {sl : Array (Option Value)} (h : K.lookup a = some ⟨.type "tuple", dd, .seq us n, sl⟩) (hs : us.size ≤ sizeLine) (r : Vals xs us.toList) : ∀ H, SqT K H a xs :=
  fun _ => .inr ⟨_, us, n, h, rfl, rfl, hs, r⟩
/-! ### a local name's value is called: the promise goes with the address -/
def tCallH (P : Program) (w : World) (K : PySem.W.Frag) (mg : Str → Option Value) (base : Heap) (k i : Nat) (t : TA) : TE := fun σ H Q => ∃ f sp, σ[i]? = some (some (.ref f)) ∧ Held P w K mg base k f sp ∧ t σ H fun vs H1 => sp vs H1 Q (fun _ _ _ => False)
theorem pe_callH {X : Cx} {k : Nat} (i : Nat) {x : Str} {p pos : Pos} {e : Expr} {es : List Expr} {t : TA} (hr : Room k X.A) (ha : PA X (e :: es) t) (hN : X.N[i]? = some x := by rfl) (hv : Vis X.env.scope x := by first | exact Or.inl rfl | exact Or.inr (Or.inl rfl) | exact Or.inr (Or.inr rfl))
    (hdb : (x == ("__debug__" : Str)) = false := by decide) (hcd : (x == ("__classdict__" : Str)) = false := by decide)
    (he : starEach (e :: es) X.env = (false, eval e X.env) :: starEach es X.env := by rfl) (hpl : (backTo pos (starEach es X.env)).any (·.1) = false := by rfl) : PE X (.Call (.Name x p) (e :: es) [] pos) (tCallH X.prog X.w X.K X.mg X.base k i t) := by
  refine ⟨fun pins s σ H Q I h => ?_⟩
  obtain ⟨f, sp, hs, hS, ht⟩ := h
  refine (pe_callA (i := i) (S := fun a => if a = f then some sp else none) (fun f' sp' e => ?_) hr hN hv ha hdb hcd he hpl).run pins s σ H Q I ⟨f, sp, hs, if_pos rfl, ht⟩
  by_cases c : f' = f
  · rw [if_pos c] at e
    cases e
    rw [c]; exact hS
  · rw [if_neg c] at e; cases e

/-! ### records as data: the mirror in plain Lean -/
def tyD : PyData → String
  | .none => "NoneType"
  | .bool _ => "bool"
  | .int _ => "int"
  | .str _ => "str"
  | .list _ => "list"
  | .tuple _ => "tuple"
  | .dict _ => "dict"
def isD (T : String) (d : PyData) : Bool := tyD d == T || (T == "int" && tyD d == "bool")
def nonD : PyData → Bool
  | .none => true
  | _ => false
def wholeD : PyData → Bool
  | .int _ => true
  | _ => false
def keyD : PyData → Bool
  | .int i => decide (0 ≤ i) && decide (i ≤ 999999)
  | _ => false
def numD : PyData → Bool
  | .int i => decide (0 ≤ i)
  | _ => false
def okT (T : String) : Bool := T == "int" || T == "bool" || T == "tuple" || T == "str" || T == "dict" || T == "list"
theorem kit_isD {K : PySem.W.Frag} {T : String} (h : okT T = true) (d : PyData) : PySem.W.kitOne K (.type (tyD d)) (.type T) = some (isD T d) := by
  have c : T = "int" ∨ T = "bool" ∨ T = "tuple" ∨ T = "str" ∨ T = "dict" ∨ T = "list" := by
    unfold okT at h
    simpa [or_assoc] using h
  rcases c with rfl | rfl | rfl | rfl | rfl | rfl <;> cases d <;> exact kit_ty (by dsimp only [isD, tyD]; decide +kernel)
theorem tyX_of {K : PySem.W.Frag} {H : Hp} {v : V} {d : PyData} (h : Dp K H v d) : TyX K H v (.type (tyD d)) := by
  cases h with
  | non => exact .base .non
  | bl b => exact .base (.bl b)
  | int i => exact .base (.int i)
  | str x => exact .base (.str x)
  | lst hs _ =>
    rcases hs with (e | ⟨o, e⟩) | ⟨o, _, _, e, c, _⟩
    · exact .base (.lst e)
    · exact .base (.frz e)
    · exact .kList e c
  | tup hs _ =>
    rcases hs with (e | ⟨o, e⟩) | ⟨o, _, _, e, c, _⟩
    · exact .base (.tup e)
    · exact .fTuple e
    · exact .kTuple e c
/-- isinstance(x, T), x data, T a built-in class -/
def rIsD (K : PySem.W.Frag) : List V → Hp → VK → Prop := fun xs H Q => ∃ (x : V) (T : String) (d : PyData), xs = [x, .ty T] ∧ okT T = true ∧ Dp K H x d ∧ Q (.bl (isD T d)) H
theorem call_isD {X : Cx} : CallR X (.builtin "isinstance") (rIsD X.K) := by
  intro pins s σ H xs us Q I r h
  obtain ⟨x, T, d, rfl, hT, hd, q⟩ := h
  exact call_isi pins s σ H _ us Q I r ⟨x, .ty T, _, _, _, rfl, .ty T, tyX_of hd, kit_isD hT d, q⟩
theorem sqT_same {K : PySem.W.Frag} {H H' : Hp} {a : Addr} {xs : List V} (s : Same H H') (h : SqT K H a xs) : SqT K H' a xs := by
  rcases h with (e | ⟨o, e⟩) | e
  · exact .inl (.inl (s _ _ e))
  · exact .inl (.inr ⟨o, s _ _ e⟩)
  · exact .inr e

def spData (K : PySem.W.Frag) (f : PyData → Bool) : Sp := fun vs H Q _ => ∃ (x : V) (d : PyData), vs = [x] ∧ Dp K H x d ∧ Q (.bl (f d)) H
def ltD : PyData → PyData → Bool
  | .int i, .int j => decide (i < j)
  | _, _ => false
def boundsD (a b c : PyData) : Bool := keyD a && (if nonD b then nonD c else keyD b && (ltD a b && numD c))
def spBounds (K : PySem.W.Frag) : Sp := fun vs H Q _ => ∃ (x y z : V) (a b c : PyData), vs = [x, y, z] ∧ Dp K H x a ∧ Dp K H y b ∧ Dp K H z c ∧ Q (.bl (boundsD a b c)) H
theorem whole_eq {d : PyData} (h : isD "int" d = true) : wholeD d = !isD "bool" d := by cases d <;> simp_all [isD, tyD, wholeD]
theorem whole_no {d : PyData} (h : isD "int" d = false) : wholeD d = false := by cases d <;> simp_all [isD, tyD, wholeD]
theorem whole_int {d : PyData} (h : wholeD d = true) : ∃ i, d = .int i := by
  cases d with
  | int i => exact ⟨i, rfl⟩
  | _ => cases (show false = true from h)
theorem key_int {d : PyData} (h : keyD d = true) : ∃ i, d = .int i ∧ 0 ≤ i ∧ i ≤ 999999 := by
  cases d with
  | int i =>
    have h : (decide (0 ≤ i) && decide (i ≤ 999999)) = true := h
    simp at h
    exact ⟨i, rfl, h.1, h.2⟩
  | _ => cases (show false = true from h)
theorem num_int {d : PyData} (h : numD d = true) : ∃ i, d = .int i ∧ 0 ≤ i := by
  cases d with
  | int i => exact ⟨i, rfl, of_decide_eq_true h⟩
  | _ => cases (show false = true from h)
theorem key_no {d : PyData} (h : wholeD d = false) : keyD d = false := by
  cases d with
  | int i => cases (show true = false from h)
  | _ => rfl
theorem num_no {d : PyData} (h : wholeD d = false) : numD d = false := by
  cases d with
  | int i => cases (show true = false from h)
  | _ => rfl
theorem dp_int {K : PySem.W.Frag} {H : Hp} {x : V} {i : Int} (h : Dp K H x (.int i)) : x = .int i := by cases h; rfl
theorem dp_non {K : PySem.W.Frag} {H : Hp} {x : V} {d : PyData} (h : Dp K H x d) : decide (x = V.non) = nonD d := by cases h <;> simp [nonD]
theorem non_eq {d : PyData} (h : nonD d = true) : d = .none := by cases d <;> first | rfl | cases (show false = true from h)
/-! ### rows -/
def rowD : PyData → Bool
  | .tuple [a, _] => keyD a
  | _ => false
def keyOf : PyData → Int
  | .tuple (.int k :: _) => k
  | _ => 0
def rises : List Int → Bool
  | a :: b :: r => decide (a < b) && rises (b :: r)
  | _ => true
def pastB (hi : PyData) (z : Int) : Bool := match hi with
  | .int j => decide (j ≤ z)
  | _ => false
def outB (ks : List Int) (lo : Int) (hi : PyData) : Bool := match ks, ks.getLast? with
  | a :: _, some z => decide (a < lo) || pastB hi z
  | _, _ => false
def rowsD (d : PyData) (lo : Int) (hi : PyData) : Bool := match d with
  | .tuple rs => decide (rs.length ≤ 400) && (rs.all rowD && (!outB (rs.map keyOf) lo hi && rises (rs.map keyOf)))
  | _ => false
def spRows (K : PySem.W.Frag) : Sp := fun vs H Q _ => ∃ (x h : V) (lo : Int) (d hi : PyData), vs = [x, .int lo, h] ∧ Dp K H x d ∧ Dp K H h hi ∧ (hi = .none ∨ ∃ j, hi = .int j) ∧ ∀ H', Same H H' → Q (.bl (rowsD d lo hi)) H'
theorem row_tuple {d : PyData} (h : isD "tuple" d = true) : ∃ ds, d = .tuple ds := by
  cases d with
  | tuple ds => exact ⟨ds, rfl⟩
  | _ => simp [isD, tyD] at h
theorem rowD_no {d : PyData} (h : isD "tuple" d = false) : rowD d = false := by
  cases d with
  | tuple ds => simp [isD, tyD] at h
  | _ => rfl
theorem rowsD_no {d : PyData} {lo : Int} {hi : PyData} (h : isD "tuple" d = false) : rowsD d lo hi = false := by
  cases d with
  | tuple ds => simp [isD, tyD] at h
  | _ => rfl
theorem dp_tup {K : PySem.W.Frag} {H : Hp} {x : V} {ds : List PyData} (h : Dp K H x (.tuple ds)) : ∃ a xs, x = .ref a ∧ SqT K H a xs ∧ DpAll K H xs ds := by
  cases h with
  | tup h1 h2 => exact ⟨_, _, rfl, h1, h2⟩
theorem dpAll_len {K : PySem.W.Frag} {H : Hp} : ∀ {xs : List V} {ds : List PyData}, DpAll K H xs ds → xs.length = ds.length
  | _, _, .nil => rfl
  | _, _, .cons _ t => congrArg (· + 1) (dpAll_len t)
theorem dpAll_at {K : PySem.W.Frag} {H : Hp} : ∀ {xs : List V} {ds : List PyData} {i : Nat} {x : V}, DpAll K H xs ds → xs[i]? = some x → ∃ d, ds[i]? = some d ∧ Dp K H x d
  | _, _, 0, _, .cons a _, e => by simp at e; subst e; exact ⟨_, rfl, a⟩
  | _, _, i + 1, x, .cons _ t, e => by
    obtain ⟨d, e1, e2⟩ := dpAll_at (i := i) (x := x) t (by simpa using e)
    exact ⟨d, by simpa using e1, e2⟩
mutual
theorem dp_same {K : PySem.W.Frag} {H H' : Hp} (s : Same H H') : ∀ {v : V} {d : PyData}, Dp K H v d → Dp K H' v d
  | _, _, .non => .non
  | _, _, .bl b => .bl b
  | _, _, .int i => .int i
  | _, _, .str x => .str x
  | _, _, .lst h a => .lst (s.seq h) (dpAll_same s a)
  | _, _, .tup h a => .tup (by
      rcases h with (e | ⟨o, e⟩) | e
      · exact .inl (.inl (s _ _ e))
      · exact .inl (.inr ⟨o, s _ _ e⟩)
      · exact .inr e) (dpAll_same s a)
theorem dpAll_same {K : PySem.W.Frag} {H H' : Hp} (s : Same H H') : ∀ {vs : List V} {ds : List PyData}, DpAll K H vs ds → DpAll K H' vs ds
  | _, _, .nil => .nil
  | _, _, .cons a t => .cons (dp_same s a) (dpAll_same s t)
end
def adj (ks : List Int) : List Bool := (ks.zip (ks.drop 1)).map fun p => decide (p.1 < p.2)
theorem adj_all : ∀ ks : List Int, (adj ks).all id = rises ks
  | [] => rfl
  | [_] => rfl
  | a :: b :: r => by
    have ih := adj_all (b :: r)
    show (decide (a < b) && (adj (b :: r)).all id) = _
    exact congrArg (decide (a < b) && ·) ih
theorem rowD_two {ds : List PyData} (h : ¬ ds.length = 2) : rowD (.tuple ds) = false := by
  match ds with
  | [] => rfl
  | [_] => rfl
  | [_, _] => exact absurd rfl h
  | _ :: _ :: _ :: _ => rfl
theorem rowD_is {d : PyData} (h : rowD d = true) : ∃ k e, d = .tuple [.int k, e] ∧ keyOf d = k ∧ 0 ≤ k ∧ k ≤ 999999 := by
  match d with
  | .tuple [a, e] =>
    obtain ⟨k, rfl, h1, h2⟩ := key_int (d := a) h
    exact ⟨k, e, rfl, rfl, h1, h2⟩
  | .tuple [] => cases (show false = true from h)
  | .tuple [_] => cases (show false = true from h)
  | .tuple (_ :: _ :: _ :: _) => cases (show false = true from h)
  | .none => cases (show false = true from h)
  | .bool _ => cases (show false = true from h)
  | .int _ => cases (show false = true from h)
  | .str _ => cases (show false = true from h)
  | .list _ => cases (show false = true from h)
  | .dict _ => cases (show false = true from h)
theorem dpAll_two {K : PySem.W.Frag} {H : Hp} {ys : List V} {a b : PyData} (h : DpAll K H ys [a, b]) : ∃ y0 y1, ys = [y0, y1] ∧ Dp K H y0 a ∧ Dp K H y1 b := by
  cases h with
  | cons h1 t =>
    cases t with
    | cons h2 t => cases t; exact ⟨_, _, rfl, h1, h2⟩
theorem eqv_nil (ks : List Int) : PyData.eqv (.list (ks.map PyData.int)) (.list []) = decide (ks = []) := by
  cases ks <;> simp [PyData.eqv, PyData.eqvAll]
theorem outB_cons {a : Int} {r : List Int} {lo z : Int} {hi : PyData} (h : (a :: r).getLast? = some z) : outB (a :: r) lo hi = (decide (a < lo) || pastB hi z) := by
  unfold outB; rw [h]
theorem cut1 (ks : List Int) : cutV (ks.map V.int) (some 1) none = (ks.drop 1).map V.int := by
  cases ks with
  | nil => rfl
  | cons a r =>
    have h1 : HT.sIx ((a :: r).map V.int).length 0 (some 1) = 1 := by
      have h := HT.sIx_nat ((a :: r).map V.int).length 0 1
      refine h.trans ?_
      rw [List.length_map, List.length_cons]; omega
    unfold cutV
    rw [h1, HT.sIx_none]
    show (r.map V.int).take _ = r.map V.int
    apply List.take_of_length_le
    rw [List.length_map, List.length_map, List.length_cons]; omega
/-! ### bases -/
def valOf : PyData → PyData
  | .tuple [_, e] => e
  | _ => .none
def rowsOf : PyData → List PyData
  | .tuple rs => rs
  | _ => []
def loOf : PyData → Int
  | .int i => i
  | _ => 0
def leafD (ds : List PyData) : Bool := match ds with
  | [_, lo, hi, ri, rs] => boundsD lo hi ri && (rowsD rs (loOf lo) hi && (rowsOf rs).all fun r => wholeD (valOf r))
  | _ => false
def spLeaf (K : PySem.W.Frag) (f : List PyData → Bool) : Sp := fun vs H Q _ => ∃ (x : V) (ds : List PyData), vs = [x] ∧ Dp K H x (.tuple ds) ∧ ∀ H', Same H H' → Q (.bl (f ds)) H'
theorem dpAll_nth {K : PySem.W.Frag} {H : Hp} {xs : List V} {ds : List PyData} {i : Nat} {d : PyData} (h : DpAll K H xs ds) (e : ds[i]? = some d) : ∃ x, xs[i]? = some x ∧ Dp K H x d := by
  have hl := dpAll_len h
  have hi : i < xs.length := by rw [hl]; exact (List.getElem?_eq_some_iff.mp e).1
  obtain ⟨d', e1, e2⟩ := dpAll_at h (List.getElem?_eq_getElem hi)
  rw [e] at e1
  cases e1
  exact ⟨_, List.getElem?_eq_getElem hi, e2⟩
theorem leafD_five {ds : List PyData} (h : ¬ ds.length = 5) : leafD ds = false := by
  match ds with
  | [] => rfl
  | [_] => rfl
  | [_, _] => rfl
  | [_, _, _] => rfl
  | [_, _, _, _] => rfl
  | [_, _, _, _, _] => exact absurd rfl h
  | _ :: _ :: _ :: _ :: _ :: _ :: _ => rfl
theorem bounds_is {a b c : PyData} (h : boundsD a b c = true) : (∃ i, a = .int i ∧ 0 ≤ i ∧ i ≤ 999999) ∧ (b = .none ∨ ∃ j, b = .int j) := by
  unfold boundsD at h
  cases ca : keyD a with
  | false => rw [ca] at h; cases (show false = true from h)
  | true =>
    refine ⟨key_int ca, ?_⟩
    cases cb : nonD b with
    | true => exact .inl (non_eq cb)
    | false =>
      rw [ca, cb] at h
      have h : (keyD b && (ltD a b && numD c)) = true := h
      cases c2 : keyD b with
      | false => rw [c2] at h; cases (show false = true from h)
      | true => obtain ⟨j, e, _⟩ := key_int c2; exact .inr ⟨j, e⟩
theorem rows_is {d : PyData} {lo : Int} {hi : PyData} (h : rowsD d lo hi = true) : ∃ rs, d = .tuple rs ∧ rs.length ≤ 400 ∧ rs.all rowD = true := by
  match d with
  | .tuple rs =>
    have h : (decide (rs.length ≤ 400) && (rs.all rowD && (!outB (rs.map keyOf) lo hi && rises (rs.map keyOf)))) = true := h
    obtain ⟨h1, h2⟩ := Bool.and_eq_true_iff.mp h
    exact ⟨rs, rfl, of_decide_eq_true h1, (Bool.and_eq_true_iff.mp h2).1⟩
  | .none => cases (show false = true from h)
  | .bool _ => cases (show false = true from h)
  | .int _ => cases (show false = true from h)
  | .str _ => cases (show false = true from h)
  | .list _ => cases (show false = true from h)
  | .dict _ => cases (show false = true from h)
def levD : PyData → Bool
  | .int i => decide (1 ≤ i) && decide (i ≤ 40)
  | _ => false
def firstD (rs : List PyData) (lo : PyData) : Bool := match rs, lo with
  | r :: _, .int i => decide (keyOf r = i)
  | _, _ => false
def boughD (ds : List PyData) : Bool := match ds with
  | [_, lv, lo, hi, ri, rs] => levD lv && (boundsD lo hi ri && (rowsD rs (loOf lo) hi && (firstD (rowsOf rs) lo && (rowsOf rs).all fun r => numD (valOf r))))
  | _ => false
theorem boughD_six {ds : List PyData} (h : ¬ ds.length = 6) : boughD ds = false := by
  match ds with
  | [] => rfl
  | [_] => rfl
  | [_, _] => rfl
  | [_, _, _] => rfl
  | [_, _, _, _] => rfl
  | [_, _, _, _, _] => rfl
  | [_, _, _, _, _, _] => exact absurd rfl h
  | _ :: _ :: _ :: _ :: _ :: _ :: _ :: _ => rfl
theorem lev_no {d : PyData} (h : wholeD d = false) : levD d = false := by
  cases d with
  | int i => cases (show true = false from h)
  | _ => rfl
/-! ### records -/
inductive Kd | key | whole | num
  deriving DecidableEq
def Kd.is : Kd → PyData → Bool
  | .key => keyD
  | .whole => wholeD
  | .num => numD
def forms : List (Str × List Kd) := [("put", [.key, .whole, .num]), ("take", [.key, .num]), ("part", [.key, .num, .num]), ("entry", [.key, .num, .num]), ("less", [.key, .num]), ("gone", [.num, .num]),
  ("join", [.key, .num, .num, .num]), ("joining", [.key, .num, .num, .num]), ("lowering", [.num, .num]), ("moved", [.num])]
def lookF : List (Str × List Kd) → Str → Option (List Kd)
  | [], _ => none
  | p :: r, z => if p.1 = z then some p.2 else lookF r z
def fitD : List Kd → List PyData → List Bool
  | k :: ks, d :: ds => k.is d :: fitD ks ds
  | _, _ => []
def formD (z : Str) (ps : List PyData) : Bool := match lookF forms z with
  | some ks => decide (ps.length = ks.length) && (fitD ks ps).all id
  | none => false
def recD : PyData → Bool
  | .tuple (.str z :: ps) => if z = "leaf" then leafD (.str z :: ps) else if z = "bough" then boughD (.str z :: ps) else formD z ps
  | _ => false
theorem recD_no {d : PyData} (h : isD "tuple" d = false) : recD d = false := by
  cases d with
  | tuple ds => simp [isD, tyD] at h
  | _ => rfl
theorem str_of {d : PyData} (h : isD "str" d = true) : ∃ z, d = .str z := by
  cases d with
  | str z => exact ⟨z, rfl⟩
  | _ => simp [isD, tyD] at h
theorem dp_str {K : PySem.W.Frag} {H : Hp} {x : V} {z : Str} (h : Dp K H x (.str z)) : x = .str z := by cases h; rfl
theorem recD_nostr {d : PyData} {ps : List PyData} (h : isD "str" d = false) : recD (.tuple (d :: ps)) = false := by
  cases d with
  | str z => simp [isD, tyD] at h
  | _ => rfl
def spRec (K : PySem.W.Frag) : Sp := fun vs H Q _ => ∃ (x : V) (d : PyData), vs = [x] ∧ Dp K H x d ∧ ∀ H', Same H H' → Q (.bl (recD d)) H'
theorem fitD_at {k : Kd} {d : PyData} : ∀ {ks : List Kd} {ps : List PyData} {j : Nat}, ks[j]? = some k → ps[j]? = some d → (fitD ks ps)[j]? = some (k.is d)
  | [], _, _, h, _ => by simp at h
  | _ :: _, [], _, _, h => by simp at h
  | _ :: _, _ :: _, 0, h1, h2 => by simp at h1 h2; subst h1; subst h2; rfl
  | _ :: ks, _ :: ps, j + 1, h1, h2 => by
    have ih := fitD_at (ks := ks) (ps := ps) (j := j) (by simpa using h1) (by simpa using h2)
    exact ih
theorem fitD_len : ∀ {ks : List Kd} {ps : List PyData}, ps.length = ks.length → (fitD ks ps).length = ks.length
  | [], [], _ => rfl
  | [], _ :: _, h => by cases h
  | _ :: _, [], h => by cases h
  | _ :: ks, _ :: ps, h => congrArg (· + 1) (fitD_len (ks := ks) (ps := ps) (Nat.succ.inj h))

structure Adr where
  (a_NoSize_init a_NoRoom_init a_NoSlot_init a_Full_init a_is_whole a_is_key a_is_number a_are_rows a_are_bounds a_is_leaf a_is_bough a_is_record a_look_at_most a_least_free a_Store_init a_Store_look_at_room a_Store_look_at_slot a_Store_look_at_free a_Store_put_in a_Store_new_slot a_Store_load a_Store_drop a_Store_swap a_Store_rooms a_Store_heads a_Store___len__ a_pool a_take a_is_slot a_key a_number a_value a_drawn_base a_drawn_record a_done a_due a_some a_law : Addr)
  (d_NoSize_init d_NoRoom_init d_NoSlot_init d_Full_init d_is_whole d_is_key d_is_number d_are_rows d_are_bounds d_is_leaf d_is_bough d_is_record d_look_at_most d_least_free d_Store_init d_Store_look_at_room d_Store_look_at_slot d_Store_look_at_free d_Store_put_in d_Store_new_slot d_Store_load d_Store_drop d_Store_swap d_Store_rooms d_Store_heads d_Store___len__ d_pool d_take d_is_slot d_key d_number d_value d_drawn_base d_drawn_record d_done d_due d_some d_law : FuncData)
  (c_Store c_NoSize c_NoRoom c_Full c_NoSlot c_NoRecord : Addr)
  (k_FORMS k_FORMS_0 k_FORMS_1 k_FORMS_2 k_FORMS_3 k_FORMS_4 k_FORMS_5 k_FORMS_6 k_FORMS_7 k_FORMS_8 k_FORMS_9 : Addr)
structure Txt (w : World) (K : PySem.W.Frag) (mg : Str → Option Value) (A : Adr) : Prop where
  F_NoSize_init : Fun K "__init__" "NoSize.__init__" s_NoSize_init A.a_NoSize_init A.d_NoSize_init
  b_NoSize_init : Binds K A.d_NoSize_init ["self", "word"] []
  ow_NoSize : ER.Own K A.c_NoSize ER.iV
  mg_NoSize : mg "NoSize" = some (.ref A.c_NoSize)
  ic_NoSize : PySem.W.findIn K (.ref A.c_NoSize) "__init__" = some (some (.ref A.a_NoSize_init))
  ti_NoSize : PySem.W.typeIn K (.ref A.a_NoSize_init) = some (.type "function")
  no_NoSize_word : PySem.W.findIn K (.ref A.c_NoSize) "word" = some none
  F_NoRoom_init : Fun K "__init__" "NoRoom.__init__" s_NoRoom_init A.a_NoRoom_init A.d_NoRoom_init
  b_NoRoom_init : Binds K A.d_NoRoom_init ["self", "room"] []
  ow_NoRoom : ER.Own K A.c_NoRoom ER.iI
  mg_NoRoom : mg "NoRoom" = some (.ref A.c_NoRoom)
  ic_NoRoom : PySem.W.findIn K (.ref A.c_NoRoom) "__init__" = some (some (.ref A.a_NoRoom_init))
  ti_NoRoom : PySem.W.typeIn K (.ref A.a_NoRoom_init) = some (.type "function")
  no_NoRoom_room : PySem.W.findIn K (.ref A.c_NoRoom) "room" = some none
  F_NoSlot_init : Fun K "__init__" "NoSlot.__init__" s_NoSlot_init A.a_NoSlot_init A.d_NoSlot_init
  b_NoSlot_init : Binds K A.d_NoSlot_init ["self", "slot"] []
  ow_NoSlot : ER.Own K A.c_NoSlot ER.iI
  mg_NoSlot : mg "NoSlot" = some (.ref A.c_NoSlot)
  ic_NoSlot : PySem.W.findIn K (.ref A.c_NoSlot) "__init__" = some (some (.ref A.a_NoSlot_init))
  ti_NoSlot : PySem.W.typeIn K (.ref A.a_NoSlot_init) = some (.type "function")
  no_NoSlot_slot : PySem.W.findIn K (.ref A.c_NoSlot) "slot" = some none
  F_Full_init : Fun K "__init__" "Full.__init__" s_Full_init A.a_Full_init A.d_Full_init
  b_Full_init : Binds K A.d_Full_init ["self", "many"] []
  ow_Full : ER.Own K A.c_Full ER.iO
  mg_Full : mg "Full" = some (.ref A.c_Full)
  ic_Full : PySem.W.findIn K (.ref A.c_Full) "__init__" = some (some (.ref A.a_Full_init))
  ti_Full : PySem.W.typeIn K (.ref A.a_Full_init) = some (.type "function")
  no_Full_many : PySem.W.findIn K (.ref A.c_Full) "many" = some none
  F_is_whole : Fun K "is_whole" "is_whole" s_is_whole A.a_is_whole A.d_is_whole
  b_is_whole : Binds K A.d_is_whole ["thing"] []
  m_is_whole : mg "is_whole" = some (.ref A.a_is_whole)
  F_is_key : Fun K "is_key" "is_key" s_is_key A.a_is_key A.d_is_key
  b_is_key : Binds K A.d_is_key ["thing"] []
  m_is_key : mg "is_key" = some (.ref A.a_is_key)
  F_is_number : Fun K "is_number" "is_number" s_is_number A.a_is_number A.d_is_number
  b_is_number : Binds K A.d_is_number ["thing"] []
  m_is_number : mg "is_number" = some (.ref A.a_is_number)
  F_are_rows : Fun K "are_rows" "are_rows" s_are_rows A.a_are_rows A.d_are_rows
  b_are_rows : Binds K A.d_are_rows ["thing", "low", "high"] []
  m_are_rows : mg "are_rows" = some (.ref A.a_are_rows)
  F_are_bounds : Fun K "are_bounds" "are_bounds" s_are_bounds A.a_are_bounds A.d_are_bounds
  b_are_bounds : Binds K A.d_are_bounds ["low", "high", "right"] []
  m_are_bounds : mg "are_bounds" = some (.ref A.a_are_bounds)
  F_is_leaf : Fun K "is_leaf" "is_leaf" s_is_leaf A.a_is_leaf A.d_is_leaf
  m_is_leaf : mg "is_leaf" = some (.ref A.a_is_leaf)
  F_is_bough : Fun K "is_bough" "is_bough" s_is_bough A.a_is_bough A.d_is_bough
  m_is_bough : mg "is_bough" = some (.ref A.a_is_bough)
  F_is_record : Fun K "is_record" "is_record" s_is_record A.a_is_record A.d_is_record
  b_is_record : Binds K A.d_is_record ["thing"] []
  m_is_record : mg "is_record" = some (.ref A.a_is_record)
  F_look_at_most : Fun K "look_at_most" "look_at_most" s_look_at_most A.a_look_at_most A.d_look_at_most
  b_look_at_most : Binds K A.d_look_at_most ["most"] []
  m_look_at_most : mg "look_at_most" = some (.ref A.a_look_at_most)
  F_least_free : Fun K "least_free" "least_free" s_least_free A.a_least_free A.d_least_free
  b_least_free : Binds K A.d_least_free ["taken"] []
  m_least_free : mg "least_free" = some (.ref A.a_least_free)
  F_Store_init : Fun K "__init__" "Store.__init__" s_Store_init A.a_Store_init A.d_Store_init
  mk_Store : Mk K A.c_Store A.a_Store_init
  bd_Store_init : ∃ u, Binds K A.d_Store_init ["self", "most"] [u] ∧ RelV (.int 4000) u
  F_Store_look_at_room : Fun K "look_at_room" "Store.look_at_room" s_Store_look_at_room A.a_Store_look_at_room A.d_Store_look_at_room
  b_Store_look_at_room : Binds K A.d_Store_look_at_room ["self", "room"] []
  me_Store_look_at_room : Meth K A.c_Store "look_at_room" A.a_Store_look_at_room
  F_Store_look_at_slot : Fun K "look_at_slot" "Store.look_at_slot" s_Store_look_at_slot A.a_Store_look_at_slot A.d_Store_look_at_slot
  b_Store_look_at_slot : Binds K A.d_Store_look_at_slot ["self", "slot"] []
  me_Store_look_at_slot : Meth K A.c_Store "look_at_slot" A.a_Store_look_at_slot
  F_Store_look_at_free : Fun K "look_at_free" "Store.look_at_free" s_Store_look_at_free A.a_Store_look_at_free A.d_Store_look_at_free
  b_Store_look_at_free : Binds K A.d_Store_look_at_free ["self", "many"] []
  me_Store_look_at_free : Meth K A.c_Store "look_at_free" A.a_Store_look_at_free
  F_Store_put_in : Fun K "put_in" "Store.put_in" s_Store_put_in A.a_Store_put_in A.d_Store_put_in
  b_Store_put_in : Binds K A.d_Store_put_in ["self", "record"] []
  me_Store_put_in : Meth K A.c_Store "put_in" A.a_Store_put_in
  F_Store_new_slot : Fun K "new_slot" "Store.new_slot" s_Store_new_slot A.a_Store_new_slot A.d_Store_new_slot
  b_Store_new_slot : Binds K A.d_Store_new_slot ["self", "head"] []
  me_Store_new_slot : Meth K A.c_Store "new_slot" A.a_Store_new_slot
  F_Store_load : Fun K "load" "Store.load" s_Store_load A.a_Store_load A.d_Store_load
  b_Store_load : Binds K A.d_Store_load ["self", "slot"] []
  me_Store_load : Meth K A.c_Store "load" A.a_Store_load
  F_Store_drop : Fun K "drop" "Store.drop" s_Store_drop A.a_Store_drop A.d_Store_drop
  b_Store_drop : Binds K A.d_Store_drop ["self", "slot"] []
  me_Store_drop : Meth K A.c_Store "drop" A.a_Store_drop
  F_Store_swap : Fun K "swap" "Store.swap" s_Store_swap A.a_Store_swap A.d_Store_swap
  b_Store_swap : Binds K A.d_Store_swap ["self", "slot", "old", "new"] []
  me_Store_swap : Meth K A.c_Store "swap" A.a_Store_swap
  F_Store_rooms : Fun K "rooms" "Store.rooms" s_Store_rooms A.a_Store_rooms A.d_Store_rooms
  b_Store_rooms : Binds K A.d_Store_rooms ["self"] []
  me_Store_rooms : Meth K A.c_Store "rooms" A.a_Store_rooms
  F_Store_heads : Fun K "heads" "Store.heads" s_Store_heads A.a_Store_heads A.d_Store_heads
  b_Store_heads : Binds K A.d_Store_heads ["self"] []
  me_Store_heads : Meth K A.c_Store "heads" A.a_Store_heads
  F_Store___len__ : Fun K "__len__" "Store.__len__" s_Store___len__ A.a_Store___len__ A.d_Store___len__
  b_Store___len__ : Binds K A.d_Store___len__ ["self"] []
  me_Store___len__ : Meth K A.c_Store "__len__" A.a_Store___len__
  F_pool : Fun K "_law_pool" "_law_pool" s_pool A.a_pool A.d_pool
  b_pool : Binds K A.d_pool ["_law_script", "_law_k"] []
  m_pool : mg "_law_pool" = some (.ref A.a_pool)
  F_take : Fun K "_law_take" "_law_take" s_take A.a_take A.d_take
  b_take : Binds K A.d_take ["_law_pool_here", "_law_many"] []
  m_take : mg "_law_take" = some (.ref A.a_take)
  F_is_slot : Fun K "_law_is_slot" "_law_is_slot" s_is_slot A.a_is_slot A.d_is_slot
  b_is_slot : Binds K A.d_is_slot ["_law_thing"] []
  m_is_slot : mg "_law_is_slot" = some (.ref A.a_is_slot)
  F_key : Fun K "_law_key" "_law_key" s_key A.a_key A.d_key
  b_key : Binds K A.d_key ["_law_pool_here"] []
  m_key : mg "_law_key" = some (.ref A.a_key)
  F_number : Fun K "_law_number" "_law_number" s_number A.a_number A.d_number
  b_number : Binds K A.d_number ["_law_pool_here"] []
  m_number : mg "_law_number" = some (.ref A.a_number)
  F_value : Fun K "_law_value" "_law_value" s_value A.a_value A.d_value
  b_value : Binds K A.d_value ["_law_pool_here"] []
  m_value : mg "_law_value" = some (.ref A.a_value)
  F_drawn_base : Fun K "_law_drawn_base" "_law_drawn_base" s_drawn_base A.a_drawn_base A.d_drawn_base
  b_drawn_base : Binds K A.d_drawn_base ["_law_pool_here", "_law_word"] []
  m_drawn_base : mg "_law_drawn_base" = some (.ref A.a_drawn_base)
  F_drawn_record : Fun K "_law_drawn_record" "_law_drawn_record" s_drawn_record A.a_drawn_record A.d_drawn_record
  b_drawn_record : Binds K A.d_drawn_record ["_law_pool_here"] []
  m_drawn_record : mg "_law_drawn_record" = some (.ref A.a_drawn_record)
  F_done : Fun K "_law_done" "_law_done" s_done A.a_done A.d_done
  b_done : Binds K A.d_done ["_law_store", "_law_way", "_law_thing", "_law_old", "_law_room"] []
  m_done : mg "_law_done" = some (.ref A.a_done)
  F_due : Fun K "_law_due" "_law_due" s_due A.a_due A.d_due
  b_due : Binds K A.d_due ["_law_own", "_law_many", "_law_way", "_law_thing", "_law_old", "_law_room"] []
  m_due : mg "_law_due" = some (.ref A.a_due)
  F_some : Fun K "_law_some" "_law_some" s_some A.a_some A.d_some
  b_some : Binds K A.d_some ["_law_pool_here", "_law_size"] []
  m_some : mg "_law_some" = some (.ref A.a_some)
  F_law : Fun K "law" "law" s_law A.a_law A.d_law
  b_law : Binds K A.d_law ["_law_script"] []
  m_law : mg "law" = some (.ref A.a_law)
  te_NoSize : PySem.W.exmOne K (.ref A.c_NoSize) (.ref A.c_NoSize) = some true
  te_NoRoom : PySem.W.exmOne K (.ref A.c_NoRoom) (.ref A.c_NoRoom) = some true
  te_Full : PySem.W.exmOne K (.ref A.c_Full) (.ref A.c_Full) = some true
  te_NoSlot : PySem.W.exmOne K (.ref A.c_NoSlot) (.ref A.c_NoSlot) = some true
  te_NoRecord : PySem.W.exmOne K (.ref A.c_NoRecord) (.ref A.c_NoRecord) = some true
  tx_NoRoom_NoSlot : PySem.W.exmOne K (.ref A.c_NoRoom) (.ref A.c_NoSlot) = some false
  ex_NoRecord : PySem.W.excIn K A.c_NoRecord ER.tlV "ValueError.__new__" = true
  mg_NoRecord : mg "NoRecord" = some (.ref A.c_NoRecord)
  kc_NoRecord : PySem.W.keepIn K (.ref A.c_NoRecord) = true
  sb_NoRecord : PySem.W.subIn K (.ref A.c_NoRecord) (.type "BaseException") = some true
  ty_NoRecord : PySem.W.typeIn K (.ref A.c_NoRecord) = some (.type "type")
  cl_Store : Cls K A.c_Store
  mg_Store : mg "Store" = some (.ref A.c_Store)
  no_Store_own_most : NoAttr K A.c_Store "own_most"
  no_Store_own_rooms : NoAttr K A.c_Store "own_rooms"
  no_Store_own_heads : NoAttr K A.c_Store "own_heads"
  n_isinstance : mg "isinstance" = none
  n_int : mg "int" = none
  n_bool : mg "bool" = none
  n_tuple : mg "tuple" = none
  n_str : mg "str" = none
  n_len : mg "len" = none
  n_all : mg "all" = none
  n_zip : mg "zip" = none
  n_ValueError : mg "ValueError" = none
  n_IndexError : mg "IndexError" = none
  n_OverflowError : mg "OverflowError" = none
  n_sorted : mg "sorted" = none
  n_dict : mg "dict" = none
  n_range : mg "range" = none
  n_min : mg "min" = none
  n_max : mg "max" = none
  n_repr : mg "repr" = none
  n_list : mg "list" = none
  n_enumerate : mg "enumerate" = none
  mk_FORMS : mg "FORMS" = some (.ref A.k_FORMS)
  kd_FORMS : KdAt K w.params A.k_FORMS [("put", .ref A.k_FORMS_0), ("take", .ref A.k_FORMS_1), ("part", .ref A.k_FORMS_2), ("entry", .ref A.k_FORMS_3), ("less", .ref A.k_FORMS_4), ("gone", .ref A.k_FORMS_5), ("join", .ref A.k_FORMS_6), ("joining", .ref A.k_FORMS_7), ("lowering", .ref A.k_FORMS_8), ("moved", .ref A.k_FORMS_9)]
  kt_FORMS_0 : ∀ H, SqT K H A.k_FORMS_0 [.ref A.a_is_key, .ref A.a_is_whole, .ref A.a_is_number]
  kt_FORMS_1 : ∀ H, SqT K H A.k_FORMS_1 [.ref A.a_is_key, .ref A.a_is_number]
  kt_FORMS_2 : ∀ H, SqT K H A.k_FORMS_2 [.ref A.a_is_key, .ref A.a_is_number, .ref A.a_is_number]
  kt_FORMS_3 : ∀ H, SqT K H A.k_FORMS_3 [.ref A.a_is_key, .ref A.a_is_number, .ref A.a_is_number]
  kt_FORMS_4 : ∀ H, SqT K H A.k_FORMS_4 [.ref A.a_is_key, .ref A.a_is_number]
  kt_FORMS_5 : ∀ H, SqT K H A.k_FORMS_5 [.ref A.a_is_number, .ref A.a_is_number]
  kt_FORMS_6 : ∀ H, SqT K H A.k_FORMS_6 [.ref A.a_is_key, .ref A.a_is_number, .ref A.a_is_number, .ref A.a_is_number]
  kt_FORMS_7 : ∀ H, SqT K H A.k_FORMS_7 [.ref A.a_is_key, .ref A.a_is_number, .ref A.a_is_number, .ref A.a_is_number]
  kt_FORMS_8 : ∀ H, SqT K H A.k_FORMS_8 [.ref A.a_is_number, .ref A.a_is_number]
  kt_FORMS_9 : ∀ H, SqT K H A.k_FORMS_9 [.ref A.a_is_number]
  v_MOST_KEY : ∃ t, mg "MOST_KEY" = some (.int 999999 t)
  v_MOST_LEVEL : ∃ t, mg "MOST_LEVEL" = some (.int 40 t)
  v_MOST_ROWS : ∃ t, mg "MOST_ROWS" = some (.int 400 t)
  v_MOST_ROOMS : ∃ t, mg "MOST_ROOMS" = some (.int 9999 t)
  v_ROOMS : ∃ t, mg "ROOMS" = some (.int 4000 t)
section
variable {P : Program} {w : World} {K : PySem.W.Frag} {mg : Str → Option Value} {base : Heap} {A : Adr}
theorem ok_NoSize_init (T : Txt w K mg A) : FnOk P w K mg base CX0 1 A.a_NoSize_init A.d_NoSize_init ["self", "word"] (spErr A.c_NoSize "word") := by
  refine T.F_NoSize_init.ok sc_NoSize_init (fun vs H Q E h => ?_) (fun cdv A' outer s H vs Q E hr h => ?_)
  · obtain ⟨a, v, rfl, _⟩ := h
    rfl
  · obtain ⟨a, v, rfl, ha, k⟩ := h
    have ow := T.ow_NoSize; have no := T.no_NoSize_word
    have hl : ([V.str "a"] : List V).length ≤ 1000 := by decide
    refine ⟨_, (pss_cons (ps_expr (ER.pe_ini (b := ER.iV) ER.nV ER.bV (by rfl) T.n_ValueError rfl (pa_cons (pv 0) (pa_cons pe_str pa_nil))))
      (pss_one (ER.ps_os1 (b := ER.iV) (pv 0) (pv 1)))), ?_⟩
    walk_at "go"
    exact k
theorem ok_NoRoom_init (T : Txt w K mg A) : FnOk P w K mg base CX0 1 A.a_NoRoom_init A.d_NoRoom_init ["self", "room"] (spErr A.c_NoRoom "room") := by
  refine T.F_NoRoom_init.ok sc_NoRoom_init (fun vs H Q E h => ?_) (fun cdv A' outer s H vs Q E hr h => ?_)
  · obtain ⟨a, v, rfl, _⟩ := h
    rfl
  · obtain ⟨a, v, rfl, ha, k⟩ := h
    have ow := T.ow_NoRoom; have no := T.no_NoRoom_room
    have hl : ([V.str "a"] : List V).length ≤ 1000 := by decide
    refine ⟨_, (pss_cons (ps_expr (ER.pe_ini (b := ER.iI) ER.nI ER.bI (by rfl) T.n_IndexError rfl (pa_cons (pv 0) (pa_cons pe_str pa_nil))))
      (pss_one (ER.ps_os1 (b := ER.iI) (pv 0) (pv 1)))), ?_⟩
    walk_at "go"
    exact k
theorem ok_Full_init (T : Txt w K mg A) : FnOk P w K mg base CX0 1 A.a_Full_init A.d_Full_init ["self", "many"] (spErr A.c_Full "many") := by
  refine T.F_Full_init.ok sc_Full_init (fun vs H Q E h => ?_) (fun cdv A' outer s H vs Q E hr h => ?_)
  · obtain ⟨a, v, rfl, _⟩ := h
    rfl
  · obtain ⟨a, v, rfl, ha, k⟩ := h
    have ow := T.ow_Full; have no := T.no_Full_many
    have hl : ([V.str "a"] : List V).length ≤ 1000 := by decide
    refine ⟨_, (pss_cons (ps_expr (ER.pe_ini (b := ER.iO) ER.nO ER.bO (by rfl) T.n_OverflowError rfl (pa_cons (pv 0) (pa_cons pe_str pa_nil))))
      (pss_one (ER.ps_os1 (b := ER.iO) (pv 0) (pv 1)))), ?_⟩
    walk_at "go"
    exact k
theorem ok_NoSlot_init (T : Txt w K mg A) : FnOk P w K mg base CX0 1 A.a_NoSlot_init A.d_NoSlot_init ["self", "slot"] (spErr A.c_NoSlot "slot") := by
  refine T.F_NoSlot_init.ok sc_NoSlot_init (fun vs H Q E h => ?_) (fun cdv A' outer s H vs Q E hr h => ?_)
  · obtain ⟨a, v, rfl, _⟩ := h
    rfl
  · obtain ⟨a, v, rfl, ha, k⟩ := h
    have ow := T.ow_NoSlot; have no := T.no_NoSlot_slot
    have hl : ([V.str "a"] : List V).length ≤ 1000 := by decide
    refine ⟨_, (pss_cons (ps_expr (ER.pe_ini (b := ER.iI) ER.nI ER.bI (by rfl) T.n_IndexError rfl (pa_cons (pv 0) (pa_cons pe_str pa_nil))))
      (pss_one (ER.ps_os1 (b := ER.iI) (pv 0) (pv 1)))), ?_⟩
    walk_at "go"
    exact k
theorem ok_is_whole (T : Txt w K mg A) : FnOk P w K mg base CX0 1 A.a_is_whole A.d_is_whole ["thing"] (spData K wholeD) := by
  refine T.F_is_whole.ok sc_is_whole (fun vs H Q E h => ?_) (fun cdv A' outer s H vs Q E hr h => ?_)
  · obtain ⟨x, d, rfl, _⟩ := h
    rfl
  · obtain ⟨x, d, rfl, hd, k⟩ := h
    refine ⟨_, (pss_one (ps_ret (pe_and (pe_callB call_isD (by rfl) T.n_isinstance (by decide +kernel) (pa_cons (pv 0) (pa_cons (pe_bltn (v := V.ty "int") (by rfl) T.n_int (by decide +kernel) rfl) pa_nil))) (pe_one (pe_not (pe_callB call_isD (by rfl) T.n_isinstance (by decide +kernel) (pa_cons (pv 0) (pa_cons (pe_bltn (v := V.ty "bool") (by rfl) T.n_bool (by decide +kernel) rfl) pa_nil)))))))), ?_⟩
    have hT1 : okT "int" = true := by decide
    have hT2 : okT "bool" = true := by decide
    walk_at "go"
    with_reducible refine by2 (fun c => ?_) (fun c => ?_)
    · walk_at "go"
      rw [← whole_eq c]; exact k
    · rw [whole_no c] at k; exact k
theorem ok_is_key (T : Txt w K mg A) : FnOk P w K mg base CX0 2 A.a_is_key A.d_is_key ["thing"] (spData K keyD) := by
  refine T.F_is_key.ok sc_is_key (fun vs H Q E h => ?_) (fun cdv A' outer s H vs Q E hr h => ?_)
  · obtain ⟨x, d, rfl, _⟩ := h
    rfl
  · obtain ⟨x, d, rfl, hd, k⟩ := h
    obtain ⟨_, v_MOST_KEY⟩ := T.v_MOST_KEY
    refine ⟨_, (pss_one (ps_ret (pe_and (pe_call (ok_is_whole T) (hr.mono (by decide)) rfl T.m_is_whole T.F_is_whole.kp T.b_is_whole .nil pass0 (pa_cons (pv 0) pa_nil)) (pe_one (pe_chain op_le op_le pe_int (pv 0) (pe_glob (v := V.int 999999) rfl v_MOST_KEY ⟨_, rfl⟩)))))), ?_⟩
    walk_at "go"
    with_reducible refine by2 (fun c => ?_) (fun c => ?_)
    · obtain ⟨i, rfl⟩ := whole_int c
      obtain rfl := dp_int hd
      walk_at "go"
      with_reducible refine by2 (fun c1 => ?_) (fun c1 => ?_)
      · walk_at "go"
        have e : keyD (.int i) = decide (i ≤ 999999) := by show (decide (0 ≤ i) && _) = _; rw [c1, Bool.true_and]
        rw [e] at k; exact k
      · have e : keyD (.int i) = false := by show (decide (0 ≤ i) && _) = _; rw [c1, Bool.false_and]
        rw [e] at k; exact k
    · rw [key_no c] at k; exact k
theorem ok_is_number (T : Txt w K mg A) : FnOk P w K mg base CX0 2 A.a_is_number A.d_is_number ["thing"] (spData K numD) := by
  refine T.F_is_number.ok sc_is_number (fun vs H Q E h => ?_) (fun cdv A' outer s H vs Q E hr h => ?_)
  · obtain ⟨x, d, rfl, _⟩ := h
    rfl
  · obtain ⟨x, d, rfl, hd, k⟩ := h
    refine ⟨_, (pss_one (ps_ret (pe_and (pe_call (ok_is_whole T) (hr.mono (by decide)) rfl T.m_is_whole T.F_is_whole.kp T.b_is_whole .nil pass0 (pa_cons (pv 0) pa_nil)) (pe_one (pe_cmpR op_ge (pv 0) pe_int (nomark _)))))), ?_⟩
    walk_at "go"
    with_reducible refine by2 (fun c => ?_) (fun c => ?_)
    · obtain ⟨i, rfl⟩ := whole_int c
      obtain rfl := dp_int hd
      walk_at "go"
      exact k
    · rw [num_no c] at k; exact k
theorem ok_are_bounds (T : Txt w K mg A) : FnOk P w K mg base CX0 3 A.a_are_bounds A.d_are_bounds ["low", "high", "right"] (spBounds K) := by
  refine T.F_are_bounds.ok sc_are_bounds (fun vs H Q E h => ?_) (fun cdv A' outer s H vs Q E hr h => ?_)
  · obtain ⟨x, y, z, a, b, c, rfl, _⟩ := h
    rfl
  · obtain ⟨x, y, z, a, b, c, rfl, ha, hb, hc, k⟩ := h
    refine ⟨_, (pss_cons (ps_if (pt_not (pt_val (pe_call (ok_is_key T) (hr.mono (by decide)) rfl T.m_is_key T.F_is_key.kp T.b_is_key .nil pass0 (pa_cons (pv 0) pa_nil))))
      (pss_one (ps_ret pe_bl))
      pss_nil)
      (pss_cons (ps_if (pt_cmpR op_isN (pv 1) pe_non (nomark _))
      (pss_one (ps_ret (pe_cmpR op_isN (pv 2) pe_non (nomark _))))
      pss_nil)
      (pss_one (ps_ret (pe_and (pe_call (ok_is_key T) (hr.mono (by decide)) rfl T.m_is_key T.F_is_key.kp T.b_is_key .nil pass0 (pa_cons (pv 1) pa_nil)) (pe_and (pe_cmpR op_lt (pv 0) (pv 1) (nomark _)) (pe_one (pe_call (ok_is_number T) (hr.mono (by decide)) rfl T.m_is_number T.F_is_number.kp T.b_is_number .nil pass0 (pa_cons (pv 2) pa_nil))))))))), ?_⟩
    walk_at "go"
    have e1 := dp_non hb
    have e2 := dp_non hc
    cases ca : keyD a with
    | false =>
      have e : boundsD a b c = false := by unfold boundsD; rw [ca, Bool.false_and]
      rw [e] at k
      dsimp only [Bool.not_false]
      walk_at "go"
      exact k
    | true =>
      obtain ⟨i, rfl, i0, i1⟩ := key_int ca
      obtain rfl := dp_int ha
      have eB : boundsD (.int i) b c = (if nonD b then nonD c else keyD b && (ltD (.int i) b && numD c)) := by unfold boundsD; rw [ca, Bool.true_and]
      walk_at "go"
      rw [e1]
      cases cb : nonD b with
      | true =>
        with_reducible refine then_ rfl ?_
        walk_at "go"
        rw [e2]
        rw [eB, cb] at k
        exact k
      | false =>
        rw [cb] at eB
        have eB : boundsD (.int i) b c = (keyD b && (ltD (.int i) b && numD c)) := eB
        rw [eB] at k
        with_reducible refine else_ rfl ?_
        walk_at "go"
        cases cb2 : keyD b with
        | false =>
          rw [cb2] at k
          with_reducible refine else_ rfl ?_
          walk_at "go"
          exact k
        | true =>
          obtain ⟨j, rfl, j0, j1⟩ := key_int cb2
          obtain rfl := dp_int hb
          rw [cb2] at k
          with_reducible refine then_ rfl ?_
          walk_at "go"
          with_reducible refine by2 (fun c1 => ?_) (fun c1 => ?_)
          · have e : ltD (.int i) (.int j) = true := c1
            rw [e] at k
            walk_at "go"
            exact k
          · have e : ltD (.int i) (.int j) = false := c1
            rw [e] at k
            walk_at "go"
            exact k
theorem ok_are_rows (T : Txt w K mg A) : FnOk P w K mg base CX0 3 A.a_are_rows A.d_are_rows ["thing", "low", "high"] (spRows K) := by
  refine T.F_are_rows.ok sc_are_rows (fun vs H Q E h => ?_) (fun cdv A' outer s H vs Q E hr h => ?_)
  · obtain ⟨x, h', lo, d, hi, rfl, _⟩ := h
    rfl
  · obtain ⟨x, y, lo, d, hi, rfl, hd, hh, ho, k⟩ := h
    obtain ⟨_, v_MOST_ROWS⟩ := T.v_MOST_ROWS
    have hT1 : okT "tuple" = true := by decide
    refine ⟨_, (cutAt (ps_if (PW.pt (pw_or (pt_not (pt_val (pe_callB call_isD (by rfl) T.n_isinstance (by decide +kernel) (pa_cons (pv 0) (pa_cons (pe_bltn (v := V.ty "tuple") (by rfl) T.n_tuple (by decide +kernel) rfl) pa_nil))))) (pw_or1 (pt_cmpR op_gt (pe_callB call_len_seq (by rfl) T.n_len PySem.boot_len (pa_cons (pv 0) pa_nil)) (pe_glob (v := V.int 400) rfl v_MOST_ROWS ⟨_, rfl⟩) (nomark _)))))
      (pss_one (ps_ret pe_bl))
      pss_nil)
      (cutAt (ps_if (pt_not (pt_val (pe_callB (cr_all rfl) (by rfl) T.n_all (by decide +kernel) (pa_cons (pe_lc (own := [("row", 4)]) rfl sc_are_rows.nd (pi_w (pi_tup (pv 0))) (blkOk_by (own := [("row", 4)]) (N := n_are_rows) (sc := defScope s_are_rows) (by decide +kernel)) (fun _ _ _ _ _ => viaG (pg_name (i := 4) sc_are_rows.nd rfl (Or.inl rfl)) (by first | rfl | (dsimp only [Cx.blk]; done) | (dsimp only [Cx.blk]; rfl))) (fun _ _ _ _ _ => viaT pts_nil (by first | rfl | (dsimp only [Cx.blk]; done) | (dsimp only [Cx.blk]; rfl))) (fun _ _ _ _ _ => viaE (pe_and (pe_callB call_isD (by rfl) T.n_isinstance (by decide +kernel) (pa_cons (pv 4) (pa_cons (pe_bltn (v := V.ty "tuple") (by rfl) T.n_tuple (by decide +kernel) rfl) pa_nil))) (pe_and (pe_cmpR op_eq (pe_callB call_len_seq (by rfl) T.n_len PySem.boot_len (pa_cons (pv 4) pa_nil)) pe_int (nomark _)) (pe_one (pe_call (ok_is_key T) (hr.mono (by decide)) rfl T.m_is_key T.F_is_key.kp T.b_is_key .nil pass0 (pa_cons (pe_ix ix_tup (pv 4) pe_int (fun _ _ => rfl)) pa_nil))))) (by first | rfl | (dsimp only [Cx.blk]; done) | (dsimp only [Cx.blk]; rfl)))) pa_nil))))
      (pss_one (ps_ret pe_bl))
      pss_nil)
      (pss_cons (ps_setLc (i := 3) (own := [("row", 4)]) rfl sc_are_rows.nd rfl rfl (sw_true rfl rfl rfl (by decide +kernel)) (pi_w (pi_tup (pv 0))) (blkOk_by (own := [("row", 4)]) (N := n_are_rows) (sc := defScope s_are_rows) (by decide +kernel)) (fun _ _ _ _ _ => viaG (pg_name (i := 4) sc_are_rows.nd rfl (Or.inl rfl)) (by first | rfl | (dsimp only [Cx.blk]; done) | (dsimp only [Cx.blk]; rfl))) (fun _ _ _ _ _ => viaT pts_nil (by first | rfl | (dsimp only [Cx.blk]; done) | (dsimp only [Cx.blk]; rfl))) (fun _ _ _ _ _ => viaE (pe_ix ix_tup (pv 4) pe_int (fun _ _ => rfl)) (by first | rfl | (dsimp only [Cx.blk]; done) | (dsimp only [Cx.blk]; rfl))))
      (cutAt (ps_if (PW.pt (pw_and (pt_cmpR (op_neD hr.units) (pv 3) (pe_lst pa_nil) (nomark _)) (pw_and1 (PW.pt (pw_or (pt_cmpR op_lt (pe_ix ix_list (pv 3) pe_int (fun _ _ => rfl)) (pv 1) (nomark _)) (pw_or1 (PW.pt (pw_and (pt_cmpR op_notN (pv 2) pe_non (nomark _)) (pw_and1 (pt_cmpR op_ge (pe_ix ix_list (pv 3) (pe_un un_neg pe_int) (fun _ _ => rfl)) (pv 2) (nomark _)))))))))))
      (pss_one (ps_ret pe_bl))
      pss_nil)
      (pss_one (ps_ret (pe_callB (cr_all rfl) (by rfl) T.n_all (by decide +kernel) (pa_cons (pe_lc (own := [("one", 5), ("other", 6)]) rfl sc_are_rows.nd (pi_w (pi_zip (by rfl) T.n_zip (pa_cons (pv 3) (pa_cons (pe_slice sl_list (pv 3) (po_some pe_int) po_none) pa_nil)))) (blkOk_by (own := [("one", 5), ("other", 6)]) (N := n_are_rows) (sc := defScope s_are_rows) (by decide +kernel)) (fun _ _ _ _ _ => viaG (pg_tup (n := 2) rfl (pgs_cons (pg_name (i := 5) sc_are_rows.nd rfl (Or.inl rfl)) (pgs_cons (pg_name (i := 6) sc_are_rows.nd rfl (Or.inl rfl)) pgs_nil))) (by first | rfl | (dsimp only [Cx.blk]; done) | (dsimp only [Cx.blk]; rfl))) (fun _ _ _ _ _ => viaT pts_nil (by first | rfl | (dsimp only [Cx.blk]; done) | (dsimp only [Cx.blk]; rfl))) (fun _ _ _ _ _ => viaE (pe_cmpR op_lt (pv 5) (pv 6) (nomark _)) (by first | rfl | (dsimp only [Cx.blk]; done) | (dsimp only [Cx.blk]; rfl)))) pa_nil)))))))), ?_⟩
    refine ⟨fun σ H1 => Wrap (σ = [some x, some (.int lo), some y, none, none, none, none] ∧ H1 = H ∧ ∃ rs, d = .tuple rs ∧ rs.length ≤ 400), ?_, ?_⟩
    · walk_at "go"
      cases ct : isD "tuple" d with
      | false =>
        rw [rowsD_no ct] at k
        walk_at "go"
        exact k H (Same.refl H)
      | true =>
        obtain ⟨rs, rfl⟩ := row_tuple ct
        obtain ⟨a, xs, rfl, hs, hds⟩ := dp_tup hd
        have hlen := dpAll_len hds
        walk_at "go"
        with_reducible refine by2 (fun c => ?_) (fun c => ?_)
        · have c : (400 : Int) < (xs.length : Nat) := of_decide_eq_true c
          have e : rowsD (.tuple rs) lo hi = false := by
            show (decide (rs.length ≤ 400) && _) = false
            rw [decide_eq_false (by omega), Bool.false_and]
          rw [e] at k
          walk_at "go"
          exact k H (Same.refl H)
        · have c : ¬ (400 : Int) < (xs.length : Nat) := of_decide_eq_false c
          exact ⟨rfl, rfl, rs, rfl, by omega⟩
    rintro σ H1 ⟨rfl, rfl, rs, rfl, hl4⟩
    obtain ⟨a, xs, rfl, hs, hds⟩ := dp_tup hd
    have hlen := dpAll_len hds
    have hxs : ∃ xs, SqT K H1 a xs := ⟨xs, hs⟩
    have eR : rowsD (.tuple rs) lo hi = (rs.all rowD && (!outB (rs.map keyOf) lo hi && rises (rs.map keyOf))) := by
      show (decide (rs.length ≤ 400) && _) = _
      rw [decide_eq_true hl4, Bool.true_and]
    rw [eR] at k
    refine ⟨fun σ H2 => Wrap (σ = [some (.ref a), some (.int lo), some y, none, none, none, none] ∧ Same H1 H2 ∧ rs.all rowD = true), ?_, ?_⟩
    · walk_at "go"
      refine Wrap.mk fun D hD => ?_
      refine lc_it (walk_tup (xs := xs)) (CP H1 D fun j => ((rs.take j).map rowD).map V.bl) (.start hD rfl) (fun j H2 _ c => ?_) ?_ ?_
      · rcases hs with (e | ⟨o, e⟩) | e
        · exact .inl (.inl (c.sm _ _ e))
        · exact .inl (.inr ⟨o, c.sm _ _ e⟩)
        · exact .inr e
      · rintro j v H2 H3 hj c ⟨rfl, hx⟩
        obtain ⟨dj, hdj, hv0⟩ := dpAll_at hds hx
        have hv := dp_same c.sm hv0
        have hD2 := c.at_
        have hlz : (((rs.take j).map rowD).map V.bl).length < sizeLine := by
          simp only [List.length_map, List.length_take]
          exact small1000 (by omega)
        have push : ∀ b : Bool, b = rowD dj → CP H1 D (fun j => ((rs.take j).map rowD).map V.bl) (j + 1) (upd H3 D (.lst (((rs.take j).map rowD).map V.bl ++ [V.bl b]))) := fun b e => by
          refine c.push (Same.refl _) ?_
          show List.map _ (List.map _ (rs.take (j + 1))) = _
          rw [take_snoc hdj, List.map_append, List.map_append, e]; rfl
        walk_at "go"
        cases ct : isD "tuple" dj with
        | false =>
          walk_at "go"
          exact push false (rowD_no ct).symm
        | true =>
          obtain ⟨ds, rfl⟩ := row_tuple ct
          obtain ⟨b, ys, rfl, hys, hyd⟩ := dp_tup hv
          have hyl := dpAll_len hyd
          walk_at "go"
          by_cases c2 : ds.length = 2
          · have e0 : decide (V.int (ys.length : Nat) = V.int 2) = true := by rw [dec_v]; simp; omega
            rw [e0]
            with_reducible refine then_ rfl ?_
            obtain ⟨d0, d1, rfl⟩ : ∃ d0 d1, ds = [d0, d1] := by
              match ds, c2 with
              | [d0, d1], _ => exact ⟨d0, d1, rfl⟩
            obtain ⟨y0, y1, rfl, hy0, hy1⟩ := dpAll_two hyd
            have a0 : atI [y0, y1] 0 = some y0 := rfl
            walk_at "go"
            exact push _ rfl
          · have e0 : decide (V.int (ys.length : Nat) = V.int 2) = false := by rw [dec_v]; simp; omega
            rw [e0]
            with_reducible refine else_ rfl ?_
            walk_at "go"
            exact push false (rowD_two c2).symm
      · intro H2 c
        have hD2 := c.at_
        rw [hlen, List.take_length] at hD2
        walk_at "go"
        have eh : (rs.map rowD).all id = rs.all rowD := by rw [List.all_map]; rfl
        rw [eh]
        cases ca : rs.all rowD with
        | false =>
          rw [ca, Bool.false_and] at k
          walk_at "go"
          exact k H2 c.sm
        | true =>
          walk_at "go"
          exact ⟨rfl, c.sm, rfl⟩
    · rintro σ H2 ⟨rfl, s2, hall⟩
      rw [hall, Bool.true_and] at k
      have hs2 : SqT K H2 a xs := by
        rcases hs with (e | ⟨o, e⟩) | e
        · exact .inl (.inl (s2 _ _ e))
        · exact .inl (.inr ⟨o, s2 _ _ e⟩)
        · exact .inr e
      have hxs2 : ∃ xs, SqT K H2 a xs := ⟨xs, hs2⟩
      walk_at "go"
      refine Wrap.mk fun D hD => ?_
      refine lc_it (walk_tup (xs := xs)) (CP H2 D fun j => ((rs.take j).map keyOf).map V.int) (.start hD rfl) (fun j H3 _ c => ?_) ?_ ?_
      · rcases hs2 with (e | ⟨o, e⟩) | e
        · exact .inl (.inl (c.sm _ _ e))
        · exact .inl (.inr ⟨o, c.sm _ _ e⟩)
        · exact .inr e
      · rintro j v H3 H4 hj c ⟨rfl, hx⟩
        obtain ⟨dj, hdj, hv0⟩ := dpAll_at hds hx
        have hv := dp_same (s2.trans c.sm) hv0
        obtain ⟨ky, ev, rfl, ek, _, _⟩ := rowD_is (List.all_eq_true.mp hall dj (List.mem_of_getElem? hdj))
        obtain ⟨b, ys, rfl, hys, hyd⟩ := dp_tup hv
        obtain ⟨y0, y1, rfl, hy0, hy1⟩ := dpAll_two hyd
        obtain rfl := dp_int hy0
        have hD2 := c.at_
        have hlz : (((rs.take j).map keyOf).map V.int).length < sizeLine := by
          simp only [List.length_map, List.length_take]
          exact small1000 (by omega)
        have a0 : atI [V.int ky, y1] 0 = some (V.int ky) := rfl
        walk_at "go"
        refine c.push (Same.refl _) ?_
        show List.map _ (List.map _ (rs.take (j + 1))) = _
        rw [take_snoc hdj, List.map_append, List.map_append]; rfl
      · intro H3 c
        have hD3 := c.at_
        rw [hlen, List.take_length] at hD3
        have s3 := s2.trans c.sm
        have hh3 := dp_same s3 hh
        have hkl : (rs.map keyOf).length ≤ 400 := by rw [List.length_map]; exact hl4
        have hpos : ∀ z ∈ rs.map keyOf, 0 ≤ z ∧ z ≤ 999999 := fun z hz => by
          obtain ⟨r, hr, rfl⟩ := List.mem_map.mp hz
          obtain ⟨ky, ev, _, ek, h1, h2⟩ := rowD_is (List.all_eq_true.mp hall r hr)
          rw [ek]; exact ⟨h1, h2⟩
        generalize rs.map keyOf = ks at *
        dsimp only [gName]
        refine ⟨fun σ H4 => Wrap (σ = [some (.ref a), some (.int lo), some y, some (.ref D), none, none, none] ∧ Same H1 H4 ∧ H4 D = some (.lst (ks.map V.int)) ∧ outB ks lo hi = false), ?_, ?_⟩
        · walk_at "go"
          intro F hF
          have nDF : D ≠ F := ne_of_none hD3 hF
          have hD4 : upd H3 F (.lst []) D = some (.lst (ks.map V.int)) := by rw [upd_ne nDF]; exact hD3
          have d1 : Dp K (upd H3 F (.lst [])) (.ref D) (.list (ks.map PyData.int)) := .lst (SqL.of hD4) (dp_ints _)
          have d2 : Dp K (upd H3 F (.lst [])) (.ref F) (.list []) := .lst (xs := []) (SqL.of upd_same) .nil
          refine ⟨_, _, d1, d2, shaped_ints _, rfl, ?_⟩
          rw [eqv_nil]
          have s4 := s3.trans (same_new (o := .lst []) hF)
          have hh4 := dp_same (same_new (o := .lst []) hF) hh3
          generalize upd H3 F (.lst []) = H4 at *
          have e2 := dp_non hh4
          cases ks with
          | nil =>
            walk_at "go"
            exact ⟨rfl, s4, hD4, rfl⟩
          | cons k0 kr =>
            obtain ⟨z, hz, hz2⟩ : ∃ z, (k0 :: kr).getLast? = some z ∧ (k0 :: kr) = (k0 :: kr).dropLast ++ [z] := ⟨_, List.getLast?_eq_some_getLast (List.cons_ne_nil _ _), (List.dropLast_concat_getLast (List.cons_ne_nil _ _)).symm⟩
            have eO := outB_cons (lo := lo) (hi := hi) hz
            have a0 : atI ((k0 :: kr).map V.int) 0 = some (V.int k0) := atI_nat (j := 0) rfl
            have a1 : atI ((k0 :: kr).map V.int) (-1) = some (V.int z) := by
              rw [hz2, List.map_append]
              exact atI_last _ _
            have kD : (decide (k0 < lo) || pastB hi z) = true → Q (.bl false) H4 := fun e => by
              have := k H4 s4
              rw [eO, e] at this; exact this
            have kN : (decide (k0 < lo) || pastB hi z) = false → Wrap ([some (V.ref a), some (V.int lo), some y, some (V.ref D), none, none, none] = [some (V.ref a), some (V.int lo), some y, some (V.ref D), none, none, none] ∧ Same H1 H4 ∧ H4 D = some (.lst ((k0 :: kr).map V.int)) ∧ outB (k0 :: kr) lo hi = false) := fun e => ⟨rfl, s4, hD4, by rw [eO]; exact e⟩
            walk_at "go"
            cases c0 : decide (k0 < lo) with
            | true =>
              with_reducible refine then_ rfl ?_
              walk_at "go"
              exact kD (by rw [c0]; rfl)
            | false =>
              rw [c0, Bool.false_or] at kD kN
              with_reducible refine else_ rfl ?_
              walk_at "go"
              rw [e2]
              rcases ho with rfl | ⟨jj, rfl⟩
              · with_reducible refine else_ rfl ?_
                walk_at "go"
                exact kN rfl
              · obtain rfl := dp_int hh4
                with_reducible refine then_ rfl ?_
                walk_at "go"
                with_reducible refine by2 (fun c1 => ?_) (fun c1 => ?_)
                · walk_at "go"
                  exact kD c1
                · walk_at "go"
                  exact kN c1
        · rintro σ H4 ⟨rfl, s4, hD4, hout⟩
          rw [hout, Bool.not_false, Bool.true_and] at k
          walk_at "go"
          intro F hF
          rw [cut1]
          have nDF : D ≠ F := ne_of_none hD4 hF
          have hD5 : upd H4 F (.lst ((ks.drop 1).map V.int)) D = some (.lst (ks.map V.int)) := by rw [upd_ne nDF]; exact hD4
          have hF5 : upd H4 F (.lst ((ks.drop 1).map V.int)) F = some (.lst ((ks.drop 1).map V.int)) := upd_same
          have s5 := s4.trans (same_new (o := .lst ((ks.drop 1).map V.int)) hF)
          generalize upd H4 F (.lst ((ks.drop 1).map V.int)) = H5 at *
          walk_at "go"
          refine Wrap.mk fun G hG => ?_
          refine lc_it (walk_zip (xs := ks.map V.int) (ys := (ks.drop 1).map V.int) rfl) (CP H5 G fun j => ((adj ks).take j).map V.bl) (.start hG rfl) (fun j H6 _ c => ⟨SqL.of (c.sm _ _ hD5), SqL.of (c.sm _ _ hF5)⟩) ?_ ?_
          · rintro j v H6 H7 hj c ⟨Tp, x1, x2, rfl, hT, rfl, hx1, hx2⟩
            have hx1 : (ks.map V.int)[j]? = some x1 := hx1
            have hx2 : ((ks.drop 1).map V.int)[j]? = some x2 := hx2
            rw [List.getElem?_map] at hx1 hx2
            cases g1 : ks[j]? with
            | none => rw [g1] at hx1; cases hx1
            | some u1 =>
              cases g2 : (ks.drop 1)[j]? with
              | none => rw [g2] at hx2; cases hx2
              | some u2 =>
                rw [g1] at hx1; rw [g2] at hx2
                obtain rfl : V.int u1 = x1 := Option.some.inj hx1
                obtain rfl : V.int u2 = x2 := Option.some.inj hx2
                have ea : (adj ks)[j]? = some (decide (u1 < u2)) := by
                  unfold adj
                  rw [List.getElem?_map, (List.getElem?_zip_eq_some (z := (u1, u2))).mpr ⟨g1, g2⟩]; rfl
                have hG7 : upd H6 Tp (.tup [.int u1, .int u2]) G = some (.lst (((adj ks).take j).map V.bl)) := by rw [upd_ne (ne_of_none c.at_ hT)]; exact c.at_
                have hT7 : upd H6 Tp (.tup [.int u1, .int u2]) Tp = some (.tup [.int u1, .int u2]) := upd_same
                have hlz : (((adj ks).take j).map V.bl).length < sizeLine := by
                  unfold adj
                  simp only [List.length_map, List.length_take, List.length_zip]
                  exact small1000 (by omega)
                walk_at "go"
                refine c.push (same_new hT) ?_
                show List.map _ ((adj ks).take (j + 1)) = _
                rw [take_snoc ea, List.map_append]; rfl
          · intro H6 c
            have hG6 := c.at_
            have el : ((adj ks).take (min (ks.map V.int).length ((ks.drop 1).map V.int).length)) = adj ks := by
              apply List.take_of_length_le
              unfold adj
              simp only [List.length_map, List.length_zip]
              exact Nat.le_refl _
            rw [el] at hG6
            walk_at "go"
            rw [adj_all]
            exact k H6 (s5.trans c.sm)
theorem ok_is_leaf (T : Txt w K mg A) : FnOk P w K mg base CX0 4 A.a_is_leaf A.d_is_leaf ["thing"] (spLeaf K leafD) := by
  refine T.F_is_leaf.ok sc_is_leaf (fun vs H Q E h => ?_) (fun cdv A' outer s H vs Q E hr h => ?_)
  · obtain ⟨x, ds, rfl, _⟩ := h
    rfl
  · obtain ⟨x, ds, rfl, hd, k⟩ := h
    obtain ⟨a, xs, rfl, hs, hds⟩ := dp_tup hd
    have hlen := dpAll_len hds
    refine ⟨_, (cutAt (ps_if (PW.pt (pw_or (pt_cmpR op_ne (pe_callB call_len_seq (by rfl) T.n_len PySem.boot_len (pa_cons (pv 0) pa_nil)) pe_int (nomark _)) (pw_or (pt_not (pt_val (pe_call (ok_are_bounds T) (hr.mono (by decide)) rfl T.m_are_bounds T.F_are_bounds.kp T.b_are_bounds .nil pass0 (pa_cons (pe_ix ix_tup (pv 0) pe_int (fun _ _ => rfl)) (pa_cons (pe_ix ix_tup (pv 0) pe_int (fun _ _ => rfl)) (pa_cons (pe_ix ix_tup (pv 0) pe_int (fun _ _ => rfl)) pa_nil)))))) (pw_or1 (pt_not (pt_val (pe_call (ok_are_rows T) (hr.mono (by decide)) rfl T.m_are_rows T.F_are_rows.kp T.b_are_rows .nil pass0 (pa_cons (pe_ix ix_tup (pv 0) pe_int (fun _ _ => rfl)) (pa_cons (pe_ix ix_tup (pv 0) pe_int (fun _ _ => rfl)) (pa_cons (pe_ix ix_tup (pv 0) pe_int (fun _ _ => rfl)) pa_nil))))))))))
      (pss_one (ps_ret pe_bl))
      pss_nil)
      (pss_one (ps_ret (pe_callB (cr_all rfl) (by rfl) T.n_all (by decide +kernel) (pa_cons (pe_lc (own := [("key", 1), ("value", 2)]) rfl sc_is_leaf.nd (pi_w (pi_tup (pe_ix ix_tup (pv 0) pe_int (fun _ _ => rfl)))) (blkOk_by (own := [("key", 1), ("value", 2)]) (N := n_is_leaf) (sc := defScope s_is_leaf) (by decide +kernel)) (fun _ _ _ _ _ => viaG (pg_tup (n := 2) rfl (pgs_cons (pg_name (i := 1) sc_is_leaf.nd rfl (Or.inl rfl)) (pgs_cons (pg_name (i := 2) sc_is_leaf.nd rfl (Or.inl rfl)) pgs_nil))) (by first | rfl | (dsimp only [Cx.blk]; done) | (dsimp only [Cx.blk]; rfl))) (fun _ _ _ _ _ => viaT pts_nil (by first | rfl | (dsimp only [Cx.blk]; done) | (dsimp only [Cx.blk]; rfl))) (fun _ _ _ _ _ => viaE (pe_call (ok_is_whole T) (hr.mono (by decide)) rfl T.m_is_whole T.F_is_whole.kp T.b_is_whole .nil pass0 (pa_cons (pv 2) pa_nil)) (by first | rfl | (dsimp only [Cx.blk]; done) | (dsimp only [Cx.blk]; rfl)))) pa_nil))))), ?_⟩
    have hA : ∀ {i : Nat} {v : V}, xs[i]? = some v → atI xs ((i : Nat) : Int) = some v := fun e => atI_nat e
    refine ⟨fun σ H1 => Wrap (σ = [some (.ref a), none, none] ∧ Same H H1 ∧ ∃ d0 lo hi ri rs, ds = [d0, .int lo, hi, ri, .tuple rs] ∧ boundsD (.int lo) hi ri = true ∧ rowsD (.tuple rs) lo hi = true ∧ rs.length ≤ 400 ∧ rs.all rowD = true), ?_, ?_⟩
    · walk_at "go"
      by_cases c5 : ds.length = 5
      · obtain ⟨d0, d1, d2, d3, d4, rfl⟩ : ∃ d0 d1 d2 d3 d4, ds = [d0, d1, d2, d3, d4] := by
          match ds, c5 with
          | [d0, d1, d2, d3, d4], _ => exact ⟨d0, d1, d2, d3, d4, rfl⟩
        have e0 : (!decide (V.int (xs.length : Nat) = V.int 5)) = false := by rw [dec_v]; simp; omega
        rw [e0]
        with_reducible refine else_ rfl ?_
        obtain ⟨v1, i1, p1⟩ := dpAll_nth hds (i := 1) rfl
        obtain ⟨v2, i2, p2⟩ := dpAll_nth hds (i := 2) rfl
        obtain ⟨v3, i3, p3⟩ := dpAll_nth hds (i := 3) rfl
        obtain ⟨v4, i4, p4⟩ := dpAll_nth hds (i := 4) rfl
        have j1 : atI xs 1 = some v1 := hA i1
        have j2 : atI xs 2 = some v2 := hA i2
        have j3 : atI xs 3 = some v3 := hA i3
        have j4 : atI xs 4 = some v4 := hA i4
        walk_at "go"
        have eL : leafD [d0, d1, d2, d3, d4] = (boundsD d1 d2 d3 && (rowsD d4 (loOf d1) d2 && (rowsOf d4).all fun r => wholeD (valOf r))) := rfl
        cases cb : boundsD d1 d2 d3 with
        | false =>
          rw [eL, cb, Bool.false_and] at k
          with_reducible refine then_ rfl ?_
          walk_at "go"
          exact k H (Same.refl H)
        | true =>
          obtain ⟨⟨lo, rfl, _, _⟩, h2⟩ := bounds_is cb
          obtain rfl := dp_int p1
          rw [eL, cb, Bool.true_and] at k
          have k : ∀ H', Same H H' → Q (.bl (rowsD d4 lo d2 && (rowsOf d4).all fun r => wholeD (valOf r))) H' := k
          with_reducible refine else_ rfl ?_
          walk_at "go"
          intro H1 s1
          walk_at "go"
          cases cr : rowsD d4 lo d2 with
          | false =>
            rw [cr, Bool.false_and] at k
            with_reducible refine then_ rfl ?_
            walk_at "go"
            exact k H1 s1
          | true =>
            obtain ⟨rs, rfl, l4, al⟩ := rows_is cr
            with_reducible refine else_ rfl ?_
            exact ⟨rfl, s1, d0, lo, d2, d3, rs, rfl, cb, cr, l4, al⟩
      · have e0 : (!decide (V.int (xs.length : Nat) = V.int 5)) = true := by rw [dec_v]; simp; omega
        rw [e0]
        rw [leafD_five c5] at k
        with_reducible refine then_ rfl ?_
        walk_at "go"
        exact k H (Same.refl H)
    · rintro σ H1 ⟨rfl, s1, d0, lo, hi, ri, rs, rfl, hb, hr, hl4, hall⟩
      obtain ⟨v4, i4, p4⟩ := dpAll_nth hds (i := 4) rfl
      have j4 : atI xs 4 = some v4 := hA i4
      obtain ⟨b, ys, rfl, hys0, hyd⟩ := dp_tup p4
      have hs1 := sqT_same s1 hs
      have hys := sqT_same s1 hys0
      have hyl := dpAll_len hyd
      have hyx : ∃ ys, SqT K H1 b ys := ⟨ys, hys⟩
      have eL : leafD [d0, .int lo, hi, ri, .tuple rs] = rs.all fun r => wholeD (valOf r) := by
        show (boundsD _ hi ri && (rowsD (.tuple rs) lo hi && _)) = _
        rw [hb, hr]; rfl
      rw [eL] at k
      walk_at "go"
      refine Wrap.mk fun D hD => ?_
      refine lc_it (walk_tup (xs := ys)) (CP H1 D fun j => ((rs.take j).map fun r => wholeD (valOf r)).map V.bl) (.start hD rfl) (fun j H2 _ c => sqT_same c.sm hys) ?_ ?_
      · rintro j v H2 H3 hj c ⟨rfl, hx⟩
        obtain ⟨dj, hdj, hv0⟩ := dpAll_at hyd hx
        have hv := dp_same (s1.trans c.sm) hv0
        obtain ⟨ky, ev, rfl, ek, _, _⟩ := rowD_is (List.all_eq_true.mp hall dj (List.mem_of_getElem? hdj))
        obtain ⟨b2, zs, rfl, hzs, hzd⟩ := dp_tup hv
        obtain ⟨y0, y1, rfl, hy0, hy1⟩ := dpAll_two hzd
        have hD2 := c.at_
        have hlz : (((rs.take j).map fun r => wholeD (valOf r)).map V.bl).length < sizeLine := by
          simp only [List.length_map, List.length_take]
          exact small1000 (by omega)
        walk_at "go"
        refine c.push (Same.refl _) ?_
        show List.map _ (List.map _ (rs.take (j + 1))) = _
        rw [take_snoc hdj, List.map_append, List.map_append]; rfl
      · intro H2 c
        have hD2 := c.at_
        rw [hyl, List.take_length] at hD2
        walk_at "go"
        have eh : (rs.map fun r => wholeD (valOf r)).all id = rs.all fun r => wholeD (valOf r) := by rw [List.all_map]; rfl
        rw [eh]
        exact k H2 (s1.trans c.sm)
theorem ok_is_bough (T : Txt w K mg A) : FnOk P w K mg base CX0 4 A.a_is_bough A.d_is_bough ["thing"] (spLeaf K boughD) := by
  refine T.F_is_bough.ok sc_is_bough (fun vs H Q E h => ?_) (fun cdv A' outer s H vs Q E hr h => ?_)
  · obtain ⟨x, ds, rfl, _⟩ := h
    rfl
  · obtain ⟨x, ds, rfl, hd, k⟩ := h
    obtain ⟨a, xs, rfl, hs, hds⟩ := dp_tup hd
    have hlen := dpAll_len hds
    obtain ⟨_, v_MOST_LEVEL⟩ := T.v_MOST_LEVEL
    refine ⟨_, (cutAt (ps_if (PW.pt (pw_or (pt_cmpR op_ne (pe_callB call_len_seq (by rfl) T.n_len PySem.boot_len (pa_cons (pv 0) pa_nil)) pe_int (nomark _)) (pw_or (pt_not (pt_val (pe_call (ok_is_whole T) (hr.mono (by decide)) rfl T.m_is_whole T.F_is_whole.kp T.b_is_whole .nil pass0 (pa_cons (pe_ix ix_tup (pv 0) pe_int (fun _ _ => rfl)) pa_nil)))) (pw_or1 (pt_not (pt_chain op_le op_le pe_int (pe_ix ix_tup (pv 0) pe_int (fun _ _ => rfl)) (pe_glob (v := V.int 40) rfl v_MOST_LEVEL ⟨_, rfl⟩)))))))
      (pss_one (ps_ret pe_bl))
      pss_nil)
      (cutAt (ps_if (PW.pt (pw_or (pt_not (pt_val (pe_call (ok_are_bounds T) (hr.mono (by decide)) rfl T.m_are_bounds T.F_are_bounds.kp T.b_are_bounds .nil pass0 (pa_cons (pe_ix ix_tup (pv 0) pe_int (fun _ _ => rfl)) (pa_cons (pe_ix ix_tup (pv 0) pe_int (fun _ _ => rfl)) (pa_cons (pe_ix ix_tup (pv 0) pe_int (fun _ _ => rfl)) pa_nil)))))) (pw_or1 (pt_not (pt_val (pe_call (ok_are_rows T) (hr.mono (by decide)) rfl T.m_are_rows T.F_are_rows.kp T.b_are_rows .nil pass0 (pa_cons (pe_ix ix_tup (pv 0) pe_int (fun _ _ => rfl)) (pa_cons (pe_ix ix_tup (pv 0) pe_int (fun _ _ => rfl)) (pa_cons (pe_ix ix_tup (pv 0) pe_int (fun _ _ => rfl)) pa_nil)))))))))
      (pss_one (ps_ret pe_bl))
      pss_nil)
      (pss_one (ps_ret (pe_and (pe_cmpR (op_neT0 hr.units) (pe_ix ix_tup (pv 0) pe_int (fun _ _ => rfl)) (pe_tup pa_nil) (nomark _)) (pe_and (pe_cmpR (op_eqD hr.units) (pe_ix ix_tup (pe_ix ix_tup (pe_ix ix_tup (pv 0) pe_int (fun _ _ => rfl)) pe_int (fun _ _ => rfl)) pe_int (fun _ _ => rfl)) (pe_ix ix_tup (pv 0) pe_int (fun _ _ => rfl)) (nomark _)) (pe_one (pe_callB (cr_all rfl) (by rfl) T.n_all (by decide +kernel) (pa_cons (pe_lc (own := [("key", 1), ("slot", 2)]) rfl sc_is_bough.nd (pi_w (pi_tup (pe_ix ix_tup (pv 0) pe_int (fun _ _ => rfl)))) (blkOk_by (own := [("key", 1), ("slot", 2)]) (N := n_is_bough) (sc := defScope s_is_bough) (by decide +kernel)) (fun _ _ _ _ _ => viaG (pg_tup (n := 2) rfl (pgs_cons (pg_name (i := 1) sc_is_bough.nd rfl (Or.inl rfl)) (pgs_cons (pg_name (i := 2) sc_is_bough.nd rfl (Or.inl rfl)) pgs_nil))) (by first | rfl | (dsimp only [Cx.blk]; done) | (dsimp only [Cx.blk]; rfl))) (fun _ _ _ _ _ => viaT pts_nil (by first | rfl | (dsimp only [Cx.blk]; done) | (dsimp only [Cx.blk]; rfl))) (fun _ _ _ _ _ => viaE (pe_call (ok_is_number T) (hr.mono (by decide)) rfl T.m_is_number T.F_is_number.kp T.b_is_number .nil pass0 (pa_cons (pv 2) pa_nil)) (by first | rfl | (dsimp only [Cx.blk]; done) | (dsimp only [Cx.blk]; rfl)))) pa_nil))))))))), ?_⟩
    have hA : ∀ {i : Nat} {v : V}, xs[i]? = some v → atI xs ((i : Nat) : Int) = some v := fun e => atI_nat e
    refine ⟨fun σ H1 => Wrap (σ = [some (.ref a), none, none] ∧ H1 = H ∧ ∃ d0 lv d2 d3 d4 d5, ds = [d0, .int lv, d2, d3, d4, d5] ∧ levD (.int lv) = true), ?_, ?_⟩
    · walk_at "go"
      by_cases c6 : ds.length = 6
      · obtain ⟨d0, d1, d2, d3, d4, d5, rfl⟩ : ∃ d0 d1 d2 d3 d4 d5, ds = [d0, d1, d2, d3, d4, d5] := by
          match ds, c6 with
          | [d0, d1, d2, d3, d4, d5], _ => exact ⟨d0, d1, d2, d3, d4, d5, rfl⟩
        have e0 : (!decide (V.int (xs.length : Nat) = V.int 6)) = false := by rw [dec_v]; simp; omega
        rw [e0]
        with_reducible refine else_ rfl ?_
        obtain ⟨v1, i1, p1⟩ := dpAll_nth hds (i := 1) rfl
        have j1 : atI xs 1 = some v1 := hA i1
        walk_at "go"
        have eL : boughD [d0, d1, d2, d3, d4, d5] = (levD d1 && (boundsD d2 d3 d4 && (rowsD d5 (loOf d2) d3 && (firstD (rowsOf d5) d2 && (rowsOf d5).all fun r => numD (valOf r))))) := rfl
        rw [eL] at k
        cases cw : wholeD d1 with
        | false =>
          rw [lev_no cw, Bool.false_and] at k
          with_reducible refine then_ rfl ?_
          walk_at "go"
          exact k H (Same.refl H)
        | true =>
          obtain ⟨lv, rfl⟩ := whole_int cw
          obtain rfl := dp_int p1
          with_reducible refine else_ rfl ?_
          walk_at "go"
          cases c1 : decide ((1 : Int) ≤ lv) with
          | false =>
            have e : levD (.int lv) = false := by show (decide (1 ≤ lv) && _) = _; rw [c1, Bool.false_and]
            rw [e, Bool.false_and] at k
            with_reducible refine else_ rfl ?_
            walk_at "go"
            exact k H (Same.refl H)
          | true =>
            have e : levD (.int lv) = decide (lv ≤ 40) := by show (decide (1 ≤ lv) && _) = _; rw [c1, Bool.true_and]
            with_reducible refine then_ rfl ?_
            walk_at "go"
            cases c2 : decide (lv ≤ 40) with
            | false =>
              rw [e, c2, Bool.false_and] at k
              with_reducible refine then_ rfl ?_
              walk_at "go"
              exact k H (Same.refl H)
            | true =>
              with_reducible refine else_ rfl ?_
              exact ⟨rfl, rfl, d0, lv, d2, d3, d4, d5, rfl, by rw [e, c2]⟩
      · have e0 : (!decide (V.int (xs.length : Nat) = V.int 6)) = true := by rw [dec_v]; simp; omega
        rw [e0]
        rw [boughD_six c6] at k
        with_reducible refine then_ rfl ?_
        walk_at "go"
        exact k H (Same.refl H)
    · rintro σ H1 ⟨rfl, rfl, d0, lv, d2, d3, d4, d5, rfl, hlv⟩
      obtain ⟨v2, i2, p2⟩ := dpAll_nth hds (i := 2) rfl
      obtain ⟨v3, i3, p3⟩ := dpAll_nth hds (i := 3) rfl
      obtain ⟨v4, i4, p4⟩ := dpAll_nth hds (i := 4) rfl
      obtain ⟨v5, i5, p5⟩ := dpAll_nth hds (i := 5) rfl
      have j2 : atI xs 2 = some v2 := hA i2
      have j3 : atI xs 3 = some v3 := hA i3
      have j4 : atI xs 4 = some v4 := hA i4
      have j5 : atI xs 5 = some v5 := hA i5
      have eL : boughD [d0, .int lv, d2, d3, d4, d5] = (boundsD d2 d3 d4 && (rowsD d5 (loOf d2) d3 && (firstD (rowsOf d5) d2 && (rowsOf d5).all fun r => numD (valOf r)))) := by
        show (levD (.int lv) && _) = _
        rw [hlv, Bool.true_and]
      rw [eL] at k
      refine ⟨fun σ H2 => Wrap (σ = [some (.ref a), none, none] ∧ Same H1 H2 ∧ ∃ lo rs, d2 = .int lo ∧ d5 = .tuple rs ∧ boundsD (.int lo) d3 d4 = true ∧ rowsD (.tuple rs) lo d3 = true ∧ rs.length ≤ 400 ∧ rs.all rowD = true), ?_, ?_⟩
      · walk_at "go"
        cases cb : boundsD d2 d3 d4 with
        | false =>
          rw [cb, Bool.false_and] at k
          with_reducible refine then_ rfl ?_
          walk_at "go"
          exact k H1 (Same.refl H1)
        | true =>
          obtain ⟨⟨lo, rfl, _, _⟩, h2⟩ := bounds_is cb
          obtain rfl := dp_int p2
          rw [cb, Bool.true_and] at k
          have k : ∀ H', Same H1 H' → Q (.bl (rowsD d5 lo d3 && (firstD (rowsOf d5) (.int lo) && (rowsOf d5).all fun r => numD (valOf r)))) H' := k
          with_reducible refine else_ rfl ?_
          walk_at "go"
          intro H2 s2
          walk_at "go"
          cases cr : rowsD d5 lo d3 with
          | false =>
            rw [cr, Bool.false_and] at k
            with_reducible refine then_ rfl ?_
            walk_at "go"
            exact k H2 s2
          | true =>
            obtain ⟨rs, rfl, l4, al⟩ := rows_is cr
            with_reducible refine else_ rfl ?_
            exact ⟨rfl, s2, lo, rs, rfl, rfl, cb, cr, l4, al⟩
      · rintro σ H2 ⟨rfl, s2, lo, rs, rfl, rfl, hb, hr, hl4, hall⟩
        obtain rfl := dp_int p2
        obtain ⟨b, ys, rfl, hys0, hyd⟩ := dp_tup p5
        have hs2 := sqT_same s2 hs
        have hys := sqT_same s2 hys0
        have hyl := dpAll_len hyd
        have k : ∀ H', Same H1 H' → Q (.bl (firstD rs (.int lo) && rs.all fun r => numD (valOf r))) H' := fun H' s => by
          have q := k H' s
          rw [hb] at q
          have e : rowsD (.tuple rs) (loOf (.int lo)) d3 = true := hr
          rw [e] at q
          exact q
        walk_at "go"
        intro Z hZ
        have s3 := s2.trans (same_new (o := .tup []) hZ)
        have hZ3 : SqT K (upd H2 Z (.tup [])) Z [] := SqT.of upd_same
        have hs3 := sqT_same s3 hs
        have hys3 := sqT_same s3 hys0
        generalize upd H2 Z (.tup []) = H3 at *
        have hyx : ∃ ys, SqT K H3 b ys := ⟨ys, hys3⟩
        walk_at "go"
        match rs, ys, hyd, hyl, hall, hl4, k with
        | [], [], hyd, hyl, hall, hl4, k =>
          with_reducible refine else_ rfl ?_
          exact k H3 s3
        | [], _ :: _, hyd, hyl, _, _, _ => cases hyd
        | _ :: _, [], hyd, hyl, _, _, _ => cases hyd
        | r0 :: rr, y0 :: yr, hyd, hyl, hall, hl4, k =>
          with_reducible refine then_ (by simp) ?_
          obtain ⟨ky, ev, rfl, ek, _, _⟩ := rowD_is (List.all_eq_true.mp hall r0 List.mem_cons_self)
          obtain ⟨x0, q0, hy0⟩ := dpAll_nth hyd (i := 0) rfl
          obtain rfl : y0 = x0 := Option.some.inj q0
          obtain ⟨b0, zs, rfl, hzs, hzd⟩ := dp_tup (dp_same s3 hy0)
          obtain ⟨z0, z1, rfl, hz0, hz1⟩ := dpAll_two hzd
          obtain rfl := dp_int hz0
          have a0 : atI (V.ref b0 :: yr) 0 = some (V.ref b0) := atI_nat (j := 0) rfl
          have a1 : atI [V.int ky, z1] 0 = some (V.int ky) := rfl
          have eF : firstD (.tuple [.int ky, ev] :: rr) (.int lo) = decide (ky = lo) := rfl
          rw [eF] at k
          have hq1 : Dp K H3 (V.int ky) (.int ky) := .int ky
          have hq2 : Dp K H3 (V.int lo) (.int lo) := .int lo
          clear hz0 p2
          have hsh : ∀ i : Int, SeqAt.shaped (.int i) = true := fun _ => rfl
          have hsh1 := hsh ky
          have hsh2 := hsh lo
          walk_at "go"
          have eq1 : (PyData.int ky).eqv (PyData.int lo) = decide (ky = lo) := by
            show (ky == lo) = decide (ky = lo)
            by_cases e : ky = lo <;> simp [e]
          rw [eq1]
          cases ce : decide (ky = lo) with
          | false =>
            rw [ce, Bool.false_and] at k
            with_reducible refine else_ rfl ?_
            exact k H3 s3
          | true =>
            rw [ce, Bool.true_and] at k
            with_reducible refine then_ rfl ?_
            walk_at "go"
            refine Wrap.mk fun D hD => ?_
            refine lc_it (walk_tup (xs := V.ref b0 :: yr)) (CP H3 D fun j => (((PyData.tuple [.int ky, ev] :: rr).take j).map fun r => numD (valOf r)).map V.bl) (.start hD rfl) (fun j H4 _ c => sqT_same c.sm hys3) ?_ ?_
            · rintro j v H4 H5 hj c ⟨rfl, hx⟩
              obtain ⟨dj, hdj, hv0⟩ := dpAll_at hyd hx
              have hv := dp_same (s3.trans c.sm) hv0
              obtain ⟨kj, ej, rfl, _, _, _⟩ := rowD_is (List.all_eq_true.mp hall dj (List.mem_of_getElem? hdj))
              obtain ⟨b2, ws, rfl, hws, hwd⟩ := dp_tup hv
              obtain ⟨w0, w1, rfl, hw0, hw1⟩ := dpAll_two hwd
              have hD2 := c.at_
              have hlz : ((((PyData.tuple [.int ky, ev] :: rr).take j).map fun r => numD (valOf r)).map V.bl).length < sizeLine := by
                simp only [List.length_map, List.length_take]
                exact small1000 (Nat.le_trans (Nat.min_le_right _ _) (by omega))
              walk_at "go"
              refine c.push (Same.refl _) ?_
              show List.map _ (List.map _ ((PyData.tuple [.int ky, ev] :: rr).take (j + 1))) = _
              rw [take_snoc hdj, List.map_append, List.map_append]; rfl
            · intro H4 c
              have hD2 := c.at_
              rw [hyl, List.take_length] at hD2
              walk_at "go"
              have eh : ((PyData.tuple [.int ky, ev] :: rr).map fun r => numD (valOf r)).all id = (PyData.tuple [.int ky, ev] :: rr).all fun r => numD (valOf r) := by rw [List.all_map]; rfl
              rw [eh]
              exact k H4 (s3.trans c.sm)

/-! ### is_record -/
def kdAddr (A : Adr) : Kd → V
  | .key => .ref A.a_is_key
  | .whole => .ref A.a_is_whole
  | .num => .ref A.a_is_number
def FormOk (K : PySem.W.Frag) (A : Adr) (f : Str × List Kd) (p : Str × Value) : Prop := f.1 = p.1 ∧ ∃ a, p.2 = .ref a ∧ f.2.length ≤ 4 ∧ ∀ H, SqT K H a (f.2.map (kdAddr A))
theorem two_look {K : PySem.W.Frag} {A : Adr} (z : Str) : ∀ {fs : List (Str × List Kd)} {kvs : List (Str × Value)}, Paired (FormOk K A) fs kvs →
    (lookF fs z = none ∧ lookS kvs z = none) ∨ ∃ a ks, lookF fs z = some ks ∧ lookS kvs z = some (.ref a) ∧ ks.length ≤ 4 ∧ ∀ H, SqT K H a (ks.map (kdAddr A))
  | _, _, .nil => .inl ⟨rfl, rfl⟩
  | f :: fs, p :: kvs, .cons ⟨h1, a, h2, h3, h4⟩ t => by
    have ih := two_look z t
    unfold lookF lookS
    by_cases c : f.1 = z
    · rw [if_pos c, if_pos (h1 ▸ c)]
      exact .inr ⟨a, f.2, rfl, congrArg some h2, h3, h4⟩
    · rw [if_neg c, if_neg (h1 ▸ c)]
      exact ih
theorem forms_at (T : Txt w K mg A) : ∃ es n, KDict K w A.k_FORMS es n ∧ ∀ z : Str, (lookF forms z = none ∧ PySem.W.nsIn K A.k_FORMS z = some none) ∨
    ∃ a ks, lookF forms z = some ks ∧ PySem.W.nsIn K A.k_FORMS z = some (some (.ref a)) ∧ ks.length ≤ 4 ∧ ∀ H, SqT K H a (ks.map (kdAddr A)) := by
  obtain ⟨es, n, D, hz⟩ := T.kd_FORMS.kd
  refine ⟨es, n, D, fun z => ?_⟩
  rw [hz z]
  have P : Paired (FormOk K A) forms [("put", .ref A.k_FORMS_0), ("take", .ref A.k_FORMS_1), ("part", .ref A.k_FORMS_2), ("entry", .ref A.k_FORMS_3), ("less", .ref A.k_FORMS_4), ("gone", .ref A.k_FORMS_5), ("join", .ref A.k_FORMS_6), ("joining", .ref A.k_FORMS_7), ("lowering", .ref A.k_FORMS_8), ("moved", .ref A.k_FORMS_9)] :=
    .cons ⟨rfl, _, rfl, by decide, T.kt_FORMS_0⟩ (.cons ⟨rfl, _, rfl, by decide, T.kt_FORMS_1⟩ (.cons ⟨rfl, _, rfl, by decide, T.kt_FORMS_2⟩ (.cons ⟨rfl, _, rfl, by decide, T.kt_FORMS_3⟩ (.cons ⟨rfl, _, rfl, by decide, T.kt_FORMS_4⟩
      (.cons ⟨rfl, _, rfl, by decide, T.kt_FORMS_5⟩ (.cons ⟨rfl, _, rfl, by decide, T.kt_FORMS_6⟩ (.cons ⟨rfl, _, rfl, by decide, T.kt_FORMS_7⟩ (.cons ⟨rfl, _, rfl, by decide, T.kt_FORMS_8⟩ (.cons ⟨rfl, _, rfl, by decide, T.kt_FORMS_9⟩ .nil)))))))))
  rcases two_look z P with ⟨h1, h2⟩ | ⟨a, ks, h1, h2, h3, h4⟩
  · exact .inl ⟨h1, congrArg some h2⟩
  · exact .inr ⟨a, ks, h1, congrArg some h2, h3, h4⟩
theorem kd_held (T : Txt w K mg A) (k : Kd) : ∃ f, kdAddr A k = .ref f ∧ Held P w K mg base 2 f (spData K k.is) := by
  cases k with
  | key => exact ⟨_, rfl, ⟨_, _, ok_is_key T, T.F_is_key.kp, T.b_is_key⟩⟩
  | whole => exact ⟨_, rfl, ⟨_, _, (ok_is_whole T).mono (by decide), T.F_is_whole.kp, T.b_is_whole⟩⟩
  | num => exact ⟨_, rfl, ⟨_, _, ok_is_number T, T.F_is_number.kp, T.b_is_number⟩⟩
theorem ok_is_record (T : Txt w K mg A) : FnOk P w K mg base CX0 5 A.a_is_record A.d_is_record ["thing"] (spRec K) := by
  refine T.F_is_record.ok sc_is_record (fun vs H Q E h => ?_) (fun cdv A' outer s H vs Q E hr h => ?_)
  · obtain ⟨x, d, rfl, _⟩ := h
    rfl
  · obtain ⟨x, d, rfl, hd, k⟩ := h
    have hT1 : okT "tuple" = true := by decide
    have hT2 : okT "str" = true := by decide
    obtain ⟨es, n, KD, hforms⟩ := forms_at T
    refine ⟨_, (cutAt (ps_if (PW.pt (pw_or (pt_not (pt_val (pe_callB call_isD (by rfl) T.n_isinstance (by decide +kernel) (pa_cons (pv 0) (pa_cons (pe_bltn (v := V.ty "tuple") (by rfl) T.n_tuple (by decide +kernel) rfl) pa_nil))))) (pw_or (pt_cmpR (op_eqT0 hr.units) (pv 0) (pe_tup pa_nil) (nomark _)) (pw_or1 (pt_not (pt_val (pe_callB call_isD (by rfl) T.n_isinstance (by decide +kernel) (pa_cons (pe_ix ix_tup (pv 0) pe_int (fun _ _ => rfl)) (pa_cons (pe_bltn (v := V.ty "str") (by rfl) T.n_str (by decide +kernel) rfl) pa_nil)))))))))
      (pss_one (ps_ret pe_bl))
      pss_nil)
      (pss_cons (ps_asg (pv 0) (ST.pg_star (n := 2) (k := 1) rfl (pgs_cons (pg_name (i := 1) sc_is_record.nd rfl (Or.inl rfl)) (ST.pgs_star (pg_name (i := 2) sc_is_record.nd rfl (Or.inl rfl)) pgs_nil))))
      (cutAt (ps_if (pt_cmpR op_eq (pv 1) pe_str (nomark _))
      (pss_one (ps_ret (pe_callK0 (ok_is_leaf T) (hr.mono (by decide)) rfl T.m_is_leaf T.F_is_leaf.kp (kb_of (ps := ["thing"]) (ks := ["thing"]) (n := 0) T.F_is_leaf (fun _ ws => ws) (fun _ r => r) (fun _ _ _ _ _ _ us ws h1 h2 => match us, ws, h1, h2 with | [], [_], _, _ => rfl)) pass0 (pk_cons (pv 0) pk_nil))))
      pss_nil)
      (cutAt (ps_if (pt_cmpR op_eq (pv 1) pe_str (nomark _))
      (pss_one (ps_ret (pe_callK0 (ok_is_bough T) (hr.mono (by decide)) rfl T.m_is_bough T.F_is_bough.kp (kb_of (ps := ["thing"]) (ks := ["thing"]) (n := 0) T.F_is_bough (fun _ ws => ws) (fun _ r => r) (fun _ _ _ _ _ _ us ws h1 h2 => match us, ws, h1, h2 with | [], [_], _, _ => rfl)) pass0 (pk_cons (pv 0) pk_nil))))
      pss_nil)
      (cutAt (ps_if (PW.pt (pw_or (pt_cmpR (op_notIn_kd KD) (pv 1) (pe_glob (v := V.ref A.k_FORMS) rfl T.mk_FORMS rfl) rfl) (pw_or1 (pt_cmpR op_ne (pe_callB call_len_seq (by rfl) T.n_len PySem.boot_len (pa_cons (pv 2) pa_nil)) (pe_callB call_len_seq (by rfl) T.n_len PySem.boot_len (pa_cons (pe_ix ix_kdict (pe_glob (v := V.ref A.k_FORMS) rfl T.mk_FORMS rfl) (pv 1) (fun _ _ => rfl)) pa_nil)) (nomark _)))))
      (pss_one (ps_ret pe_bl))
      pss_nil)
      (pss_one (ps_ret (pe_callB (cr_all rfl) (by rfl) T.n_all (by decide +kernel) (pa_cons (pe_lc (own := [("is_fit", 3), ("part", 4)]) rfl sc_is_record.nd (pi_w (ZM.pi_zipM (by rfl) T.n_zip (pa_cons (pe_ix ix_kdict (pe_glob (v := V.ref A.k_FORMS) rfl T.mk_FORMS rfl) (pv 1) (fun _ _ => rfl)) (pa_cons (pv 2) pa_nil)))) (blkOk_by (own := [("is_fit", 3), ("part", 4)]) (N := n_is_record) (sc := defScope s_is_record) (by decide +kernel)) (fun _ _ _ _ _ => viaG (pg_tup (n := 2) rfl (pgs_cons (pg_name (i := 3) sc_is_record.nd rfl (Or.inl rfl)) (pgs_cons (pg_name (i := 4) sc_is_record.nd rfl (Or.inl rfl)) pgs_nil))) (by first | rfl | (dsimp only [Cx.blk]; done) | (dsimp only [Cx.blk]; rfl))) (fun _ _ _ _ _ => viaT pts_nil (by first | rfl | (dsimp only [Cx.blk]; done) | (dsimp only [Cx.blk]; rfl))) (fun _ _ _ _ _ => viaE (pe_callH (k := 2) 3 (hr.mono (by decide)) (pa_cons (pv 4) pa_nil)) (by first | rfl | (dsimp only [Cx.blk]; done) | (dsimp only [Cx.blk]; rfl)))) pa_nil))))))))), ?_⟩
    refine ⟨fun σ H1 => Wrap (∃ a z ws ps, σ = [some (.ref a), none, none, none, none] ∧ Same H H1 ∧ x = .ref a ∧ d = .tuple (.str z :: ps) ∧ SqT K H1 a (V.str z :: ws) ∧ DpAll K H1 ws ps), ?_, ?_⟩
    · walk_at "go"
      cases ct : isD "tuple" d with
      | false =>
        rw [recD_no ct] at k
        walk_at "go"
        exact k H (Same.refl H)
      | true =>
        obtain ⟨ds, rfl⟩ := row_tuple ct
        obtain ⟨a, xs, rfl, hs, hds⟩ := dp_tup hd
        have hlen := dpAll_len hds
        walk_at "go"
        intro Z hZ
        have s1 := same_new (o := .tup []) hZ
        have hZ1 : SqT K (upd H Z (.tup [])) Z [] := SqT.of upd_same
        have hs1 := sqT_same s1 hs
        have hds1 := dpAll_same s1 hds
        have k1 := fun H' (s : Same (upd H Z (.tup [])) H') => k H' (s1.trans s)
        generalize upd H Z (.tup []) = H1 at *
        walk_at "go"
        match ds, xs, hds1, hs1, hlen, k1 with
        | [], [], _, _, _, k1 =>
          with_reducible refine then_ rfl ?_
          walk_at "go"
          exact k1 H1 (Same.refl H1)
        | d0 :: ps, x0 :: ws, .cons h0 hps, hs1, hlen, k1 =>
          with_reducible refine else_ (by simp) ?_
          have a0 : atI (x0 :: ws) 0 = some x0 := atI_nat (j := 0) rfl
          walk_at "go"
          cases c0 : isD "str" d0 with
          | false =>
            rw [recD_nostr c0] at k1
            walk_at "go"
            exact k1 H1 (Same.refl H1)
          | true =>
            obtain ⟨z, rfl⟩ := str_of c0
            obtain rfl := dp_str h0
            walk_at "go"
            exact ⟨a, z, ws, ps, rfl, s1, rfl, rfl, hs1, hps⟩
    · rintro σ H1 ⟨a, z, ws, ps, rfl, s1, rfl, rfl, hs, hps⟩
      have hl := dpAll_len hps
      have hd1 := dp_same s1 hd
      have k1 := fun H' (s : Same H1 H') => k H' (s1.trans s)
      clear k s1 hd
      have hw2 : 2 ≤ (V.str z :: ws).length + 1 := by simp
      walk_at "go"
      intro L hL
      have e1 : (List.take 1 (V.str z :: ws) ++ [V.ref L] ++ List.drop ((V.str z :: ws).length - (2 - 1 - 1)) (V.str z :: ws)) = [V.str z, V.ref L] := by simp
      have e2 : List.take ((V.str z :: ws).length - (2 - 1)) (List.drop 1 (V.str z :: ws)) = ws := by simp
      rw [e1, e2]
      have s2 := same_new (o := .lst ws) hL
      have hs2 := sqT_same s2 hs
      have hps2 := dpAll_same s2 hps
      have hd2 := dp_same s2 hd1
      have hL2 : upd H1 L (.lst ws) L = some (.lst ws) := upd_same
      have k2 := fun H' (s : Same (upd H1 L (.lst ws)) H') => k1 H' (s2.trans s)
      generalize upd H1 L (.lst ws) = H2 at *
      clear k1 hd1 hps hs s2
      walk_at "go"
      refine ⟨fun σ H3 => Wrap (σ = [some (.ref a), some (.str z), some (.ref L), none, none] ∧ H3 = H2 ∧ z ≠ "leaf"), ?_, ?_⟩
      · walk_at "go"
        by_cases c : z = "leaf"
        · have e : recD (.tuple (.str z :: ps)) = leafD (.str z :: ps) := if_pos c
          rw [e] at k2
          with_reducible refine then_ (by rw [c]; simp) ?_
          walk_at "go"
          exact k2
        · with_reducible refine else_ (by simpa using c) ?_
          exact ⟨rfl, rfl, c⟩
      rintro σ H3 ⟨rfl, rfl, nl⟩
      have e : recD (.tuple (.str z :: ps)) = if z = "bough" then boughD (.str z :: ps) else formD z ps := if_neg nl
      rw [e] at k2
      clear e
      refine ⟨fun σ H4 => Wrap (σ = [some (.ref a), some (.str z), some (.ref L), none, none] ∧ H4 = H3 ∧ z ≠ "bough"), ?_, ?_⟩
      · walk_at "go"
        by_cases c : z = "bough"
        · rw [if_pos c] at k2
          with_reducible refine then_ (by rw [c]; simp) ?_
          walk_at "go"
          exact k2
        · with_reducible refine else_ (by simpa using c) ?_
          exact ⟨rfl, rfl, c⟩
      rintro σ H4 ⟨rfl, rfl, nb⟩
      rw [if_neg nb] at k2
      rcases hforms z with ⟨f1, f2⟩ | ⟨fa, ks, f1, f2, f3, f4⟩
      · have e : formD z ps = false := by unfold formD; rw [f1]
        rw [e] at k2
        refine ⟨fun σ H4 => Wrap False, ?_, fun _ _ z => z.ex.elim⟩
        walk_at "go"
        exact k2 H4 (Same.refl H4)
      · have e : formD z ps = (decide (ps.length = ks.length) && (fitD ks ps).all id) := by unfold formD; rw [f1]
        have kd1 : KDct K w A.k_FORMS z (V.ref fa) := ⟨es, n, _, KD.at_, KD.lit, f2, rfl⟩
        rw [e] at k2
        clear e
        have f4' := f4 H4
        refine ⟨fun σ H5 => Wrap (σ = [some (.ref a), some (.str z), some (.ref L), none, none] ∧ H5 = H4 ∧ ps.length = ks.length), ?_, ?_⟩
        · walk_at "go"
          by_cases c : ps.length = ks.length
          · with_reducible refine else_ (by rw [dec_v, List.length_map]; simp; omega) ?_
            exact ⟨rfl, rfl, c⟩
          · rw [decide_eq_false c, Bool.false_and] at k2
            with_reducible refine then_ (by rw [dec_v, List.length_map]; simp; omega) ?_
            walk_at "go"
            exact k2 H4 (Same.refl H4)
        · rintro σ H5 ⟨rfl, rfl, hlk⟩
          rw [decide_eq_true hlk, Bool.true_and] at k2
          walk_at "go"
          refine Wrap.mk fun D hD => ?_
          have eN : ks.length = min (ks.map (kdAddr A)).length ws.length := by rw [List.length_map]; omega
          have hfl := fitD_len hlk
          refine lc_it (ZM.walk_m (xs := ks.map (kdAddr A)) (ys := ws) eN) (CP H5 D fun j => ((fitD ks ps).take j).map V.bl) (.start hD rfl) (fun j H6 _ c => ⟨f4 H6, SqL.of (c.sm _ _ hL2)⟩) ?_ ?_
          · rintro j v H6 H7 hj c ⟨Tp, x1, x2, rfl, hT, rfl, hx1, hx2⟩
            obtain ⟨kd, hkd, rfl⟩ : ∃ kd, ks[j]? = some kd ∧ kdAddr A kd = x1 := by
              have hx1 : (ks.map (kdAddr A))[j]? = some x1 := hx1
              rw [List.getElem?_map] at hx1
              cases g : ks[j]? with
              | none => rw [g] at hx1; cases hx1
              | some kd => rw [g] at hx1; exact ⟨kd, rfl, Option.some.inj hx1⟩
            obtain ⟨dj, hdj, hv0⟩ := dpAll_at hps2 hx2
            have hv := dp_same (c.sm.trans (same_new (o := .tup [kdAddr A kd, x2]) hT)) hv0
            obtain ⟨f, ef, hf⟩ := kd_held (P := P) (w := w) (base := base) T kd
            have ea := fitD_at hkd hdj
            have hD7 : upd H6 Tp (.tup [kdAddr A kd, x2]) D = some (.lst (((fitD ks ps).take j).map V.bl)) := by rw [upd_ne (ne_of_none c.at_ hT)]; exact c.at_
            have hT7 : upd H6 Tp (.tup [kdAddr A kd, x2]) Tp = some (.tup [kdAddr A kd, x2]) := upd_same
            have hlz : (((fitD ks ps).take j).map V.bl).length < sizeLine := by
              simp only [List.length_map, List.length_take]
              exact small1000 (by omega)
            have hpush := c.push (y := .bl (kd.is dj)) (same_new (o := .tup [kdAddr A kd, x2]) hT) (by
              show List.map _ ((fitD ks ps).take (j + 1)) = _
              rw [take_snoc ea, List.map_append]; rfl)
            generalize upd H6 Tp (.tup [kdAddr A kd, x2]) = H7 at *
            rw [ef] at hT7
            walk_at "go"
            exact hpush
          · intro H6 c
            have hG6 := c.at_
            rw [← hfl, List.take_length] at hG6
            walk_at "go"
            exact k2 H6 c.sm

/-! ### promises of the records' own defs, lifted; beneath; _law_right -/
instance upData {F0 : Hp} {E : XK} {f : PyData → Bool} : VW.UpSp K F0 (spData K f) E (fun ds S P => ∃ x d, ds = [x] ∧ VW.py x = some d ∧ P (.bl (f d)) S) := ⟨fun {vs ds F S H Q P} r hv ⟨x, d, e, hx, p⟩ le => by
  subst e
  cases hv with
  | cons a b =>
    cases b
    exact ⟨_, d, rfl, dp_same r.fr (VW.dp_of hx a), le _ _ _ _ _ p (Same.refl _) r (.bl _)⟩⟩
instance upRec {F0 : Hp} {E : XK} : VW.UpSp K F0 (spRec K) E (fun ds S P => ∃ x d, ds = [x] ∧ VW.py x = some d ∧ P (.bl (recD d)) S) := ⟨fun {vs ds F S H Q P} r hv ⟨x, d, e, hx, p⟩ le => by
  subst e
  cases hv with
  | cons a b =>
    cases b
    exact ⟨_, d, rfl, dp_same r.fr (VW.dp_of hx a), fun H' s => le _ _ _ _ _ p (Same.refl _) ⟨r.s0, r.fr.trans s, fun a o e => let ⟨h1, ho, h2, l⟩ := r.tr a o e; ⟨h1, ho, s _ _ h2, l⟩⟩ (.bl _)⟩⟩
mutual
theorem hasDict_py : ∀ {x : VW.D} {d : PyData}, VW.py x = some d → d.hasDict = false
  | .non, _, e => by simp [VW.py] at e; subst e; rfl
  | .bl b, _, e => by simp [VW.py] at e; subst e; rfl
  | .int b, _, e => by simp [VW.py] at e; subst e; rfl
  | .str b, _, e => by simp [VW.py] at e; subst e; rfl
  | .byt b, _, e => by simp [VW.py] at e
  | .flt b, _, e => by simp [VW.py] at e
  | .ref b, _, e => by simp [VW.py] at e
  | .ty b, _, e => by simp [VW.py] at e
  | .dK b, _, e => by simp [VW.py] at e
  | .dT b, _, e => by simp [VW.py] at e
  | .ins b c, _, e => by simp [VW.py] at e
  | .seq b, _, e => by simp [VW.py] at e
  | .lst xs, _, e => by
    rw [VW.py] at e
    cases q : VW.pyAll xs with
    | none => rw [q] at e; cases e
    | some ps => rw [q] at e; cases e; exact hasDict_pyAll q
  | .tup xs, _, e => by
    rw [VW.py] at e
    cases q : VW.pyAll xs with
    | none => rw [q] at e; cases e
    | some ps => rw [q] at e; cases e; exact hasDict_pyAll q
theorem hasDict_pyAll : ∀ {xs : List VW.D} {ps : List PyData}, VW.pyAll xs = some ps → PyData.hasDictAll ps = false
  | [], _, e => by rw [VW.pyAll] at e; cases e; rfl
  | x :: r, _, e => by
    rw [VW.pyAll] at e
    cases q : VW.py x with
    | none => rw [q] at e; cases e
    | some p =>
      rw [q] at e
      cases q2 : VW.pyAll r with
      | none => rw [q2] at e; cases e
      | some ps =>
        rw [q2] at e; cases e
        show (p.hasDict || PyData.hasDictAll ps) = false
        rw [hasDict_py q, hasDict_pyAll q2]; rfl
end
theorem pyS_of {S : VW.Sto} {x : VW.D} {d : PyData} (h : VW.py x = some d) : VW.pyS S x = some d := by
  cases x <;> first | exact h | (simp [VW.py] at h)
mutual
theorem plain_py : ∀ {x : VW.D} {d : PyData}, VW.py x = some d → d.plain = true
  | .non, _, e => by simp [VW.py] at e; subst e; rfl
  | .bl b, _, e => by simp [VW.py] at e; subst e; rfl
  | .int b, _, e => by simp [VW.py] at e; subst e; rfl
  | .str b, _, e => by simp [VW.py] at e; subst e; rfl
  | .byt b, _, e => by simp [VW.py] at e
  | .flt b, _, e => by simp [VW.py] at e
  | .ref b, _, e => by simp [VW.py] at e
  | .ty b, _, e => by simp [VW.py] at e
  | .dK b, _, e => by simp [VW.py] at e
  | .dT b, _, e => by simp [VW.py] at e
  | .ins b c, _, e => by simp [VW.py] at e
  | .seq b, _, e => by simp [VW.py] at e
  | .lst xs, _, e => by
    rw [VW.py] at e
    cases q : VW.pyAll xs with
    | none => rw [q] at e; cases e
    | some ps => rw [q] at e; cases e; exact plain_pyAll q
  | .tup xs, _, e => by
    rw [VW.py] at e
    cases q : VW.pyAll xs with
    | none => rw [q] at e; cases e
    | some ps => rw [q] at e; cases e; exact plain_pyAll q
theorem plain_pyAll : ∀ {xs : List VW.D} {ps : List PyData}, VW.pyAll xs = some ps → PyData.plainAll ps = true
  | [], _, e => by rw [VW.pyAll] at e; cases e; rfl
  | x :: r, _, e => by
    rw [VW.pyAll] at e
    cases q : VW.py x with
    | none => rw [q] at e; cases e
    | some p =>
      rw [q] at e
      cases q2 : VW.pyAll r with
      | none => rw [q2] at e; cases e
      | some ps =>
        rw [q2] at e; cases e
        show (p.plain && PyData.plainAll ps) = true
        rw [plain_py q, plain_pyAll q2]; rfl
end
/-- data of few levels: == may be asked of it -/
structure Dp60 (n : Nat) (x : VW.D) : Prop where
  ex : ∃ d, VW.py x = some d ∧ d.depth ≤ n
theorem Dp60.ok {n : Nat} {x : VW.D} (h : Dp60 n x) (hn : n ≤ 60) : VW.okP (VW.py x) = true := by
  obtain ⟨d, e, hd⟩ := h
  rw [e]
  show (d.plain && decide (d.depth ≤ 60)) = true
  rw [plain_py e, decide_eq_true (Nat.le_trans hd hn)]; rfl
theorem Dp60.mono {n m : Nat} {x : VW.D} (h : Dp60 n x) (hn : n ≤ m) : Dp60 m x := let ⟨d, e, hd⟩ := h; ⟨d, e, Nat.le_trans hd hn⟩
theorem Dp60.alls {n : Nat} : ∀ {xs : List VW.D}, (∀ x ∈ xs, Dp60 n x) → ∃ ps, VW.pyAll xs = some ps ∧ PyData.depthAll ps ≤ n
  | [], _ => ⟨[], by rw [VW.pyAll], by simp [PyData.depthAll]⟩
  | x :: r, h => by
    obtain ⟨d, e, hd⟩ := h x List.mem_cons_self
    obtain ⟨ps, e2, h2⟩ := Dp60.alls (xs := r) fun y hy => h y (List.mem_cons_of_mem _ hy)
    exact ⟨d :: ps, by rw [VW.pyAll, e, e2]; rfl, by simp only [PyData.depthAll]; omega⟩
theorem Dp60.lst {n : Nat} {xs : List VW.D} (h : ∀ x ∈ xs, Dp60 n x) : Dp60 (n + 1) (.lst xs) := by
  obtain ⟨ps, e, hd⟩ := Dp60.alls h
  exact ⟨.list ps, by rw [VW.py, e]; rfl, by simp only [PyData.depth]; omega⟩
theorem Dp60.tup {n : Nat} {xs : List VW.D} (h : ∀ x ∈ xs, Dp60 n x) : Dp60 (n + 1) (.tup xs) := by
  obtain ⟨ps, e, hd⟩ := Dp60.alls h
  exact ⟨.tuple ps, by rw [VW.py, e]; rfl, by simp only [PyData.depth]; omega⟩
theorem Dp60.int (i : Int) : Dp60 0 (.int i) := ⟨_, by rw [VW.py], by simp [PyData.depth]⟩
theorem Dp60.str (z : Str) : Dp60 0 (.str z) := ⟨_, by rw [VW.py], by simp [PyData.depth]⟩
theorem Dp60.bl (b : Bool) : Dp60 0 (.bl b) := ⟨_, by rw [VW.py], by simp [PyData.depth]⟩
theorem Dp60.non : Dp60 0 .non := ⟨_, by rw [VW.py], by simp [PyData.depth]⟩
/-- what is the same is equal -/
theorem okS_of {S : VW.Sto} {x : VW.D} (h : VW.okP (VW.py x) = true) : VW.okP (VW.pyS S x) = true ∧ VW.eqP (VW.pyS S x) (VW.pyS S x) = true := by
  cases e : VW.py x with
  | none => rw [e] at h; cases h
  | some d =>
    rw [pyS_of e]
    rw [e] at h
    exact ⟨h, SeqAt.eqv_refl_plain d (VW.okP_some h).1⟩
theorem eqP_int (S : VW.Sto) (i j : Int) : VW.eqP (VW.pyS S (.int i)) (VW.pyS S (.int j)) = decide (i = j) := by
  rw [pyS_of (x := .int i) (d := .int i) (by rw [VW.py]), pyS_of (x := .int j) (d := .int j) (by rw [VW.py])]
  show PyData.eqv (.int i) (.int j) = _
  simp only [PyData.eqv]; rfl
theorem okP_int (S : VW.Sto) (i : Int) : VW.okP (VW.pyS S (.int i)) = true := by
  rw [pyS_of (x := .int i) (d := .int i) (by rw [VW.py])]; rfl

/-! ### the store, walked -/
def sfD (m : Int) (r h : Addr) : List (Str × VW.D) := [("own_most", .int m), ("own_rooms", .ref r), ("own_heads", .ref h)]
theorem sfD_most (m : Int) (r h : Addr) : (sfD m r h).lookup ("own_most" : Str) = some (.int m) := VW.look_eq
theorem sfD_rooms (m : Int) (r h : Addr) : (sfD m r h).lookup ("own_rooms" : Str) = some (.ref r) := (VW.look_ne (by decide +kernel)).trans VW.look_eq
theorem sfD_heads (m : Int) (r h : Addr) : (sfD m r h).lookup ("own_heads" : Str) = some (.ref h) := (VW.look_ne (by decide +kernel)).trans ((VW.look_ne (by decide +kernel)).trans VW.look_eq)
theorem sfD_no (m : Int) (r h : Addr) {f : Str} (h1 : (f == "own_most") = false) (h2 : (f == "own_rooms") = false) (h3 : (f == "own_heads") = false) : (sfD m r h).lookup f = none := (VW.look_ne h1).trans ((VW.look_ne h2).trans (VW.look_ne h3))
theorem sfD_made (m : Int) (r h : Addr) : VW.setF "own_heads" (.ref h) (VW.setF "own_rooms" (.ref r) (VW.setF "own_most" (.int m) [])) = sfD m r h := by
  show VW.setF "own_heads" (.ref h) (VW.setF "own_rooms" (.ref r) [("own_most", .int m)]) = _
  rw [VW.setF_ne (by decide +kernel)]
  show VW.setF "own_heads" (.ref h) [("own_most", .int m), ("own_rooms", .ref r)] = _
  rw [VW.setF_ne (by decide +kernel), VW.setF_ne (by decide +kernel)]; rfl
/-- a store at p: its most, its rooms at r, its heads at h -/
structure Sto (C : Addr) (S : VW.Sto) (p : Addr) (n : Int) (r h : Addr) (rm hm : List (Int × VW.D)) : Prop where
  ap : S p = some (.ins C (sfD n r h))
  ar : S r = some (.dK (VW.iK rm))
  ah : S h = some (.dK (VW.iK hm))
  rh : r ≠ h
section
variable {C : Addr} {S : VW.Sto} {p r h : Addr} {n : Int} {rm hm rm' hm' : List (Int × VW.D)}
theorem Sto.pr (s : Sto C S p n r h rm hm) : p ≠ r := fun e => by have := s.ap; rw [e, s.ar] at this; cases this
theorem Sto.ph (s : Sto C S p n r h rm hm) : p ≠ h := fun e => by have := s.ap; rw [e, s.ah] at this; cases this
theorem Sto.putR (s : Sto C S p n r h rm hm) : Sto C (VW.sup S r (.dK (VW.iK rm'))) p n r h rm' hm :=
  ⟨by rw [VW.sup_ne s.pr]; exact s.ap, VW.sup_same, by rw [VW.sup_ne s.rh.symm]; exact s.ah, s.rh⟩
theorem Sto.putH (s : Sto C S p n r h rm hm) : Sto C (VW.sup S h (.dK (VW.iK hm'))) p n r h rm hm' :=
  ⟨by rw [VW.sup_ne s.ph]; exact s.ap, by rw [VW.sup_ne s.rh]; exact s.ar, VW.sup_same, s.rh⟩
theorem Sto.made (hp : S p = some (.ins C [])) (hr : S r = none) (hh : S h = none) (n0 : r ≠ h) : Sto C (VW.sup (VW.sup (VW.sup S r (.dK [])) h (.dK [])) p (.ins C (sfD n r h))) p n r h [] [] := by
  have n1 : r ≠ p := fun e => by rw [e, hp] at hr; cases hr
  have n2 : h ≠ p := fun e => by rw [e, hp] at hh; cases hh
  exact ⟨VW.sup_same, by rw [VW.sup_ne n1, VW.sup_ne n0, VW.sup_same]; rfl, by rw [VW.sup_ne n2, VW.sup_same]; rfl, n0⟩
theorem Sto.drawn {q : Addr} {S' : VW.Sto} (s : Sto C S p n r h rm hm) (hq : VW.PoolS S q) (d : VW.Drawn S q S') : Sto C S' p n r h rm hm := by
  obtain ⟨c, e, hq, _⟩ := hq
  have n1 : p ≠ q := fun z => by have := s.ap; rw [z, hq] at this; cases this
  have n2 : r ≠ q := fun z => by have := s.ar; rw [z, hq] at this; cases this
  have n3 : h ≠ q := fun z => by have := s.ah; rw [z, hq] at this; cases this
  exact ⟨d.at s.ap n1, d.at s.ar n2, d.at s.ah n3, s.rh⟩
theorem Sto.mono {S' : VW.Sto} (s : Sto C S p n r h rm hm) (k : ∀ a o, S a = some o → S' a = some o) : Sto C S' p n r h rm hm := ⟨k _ _ s.ap, k _ _ s.ar, k _ _ s.ah, s.rh⟩
end
def mostD : PyData → Bool
  | .int i => decide (1 ≤ i) && decide (i ≤ 9999)
  | _ => false
theorem most_no {d : PyData} (h : wholeD d = false) : mostD d = false := by
  cases d with
  | int i => cases (show true = false from h)
  | _ => rfl
/-- a thing is a key of the dict, a number from 0 on -/
def inI (m : List (Int × VW.D)) : PyData → Bool
  | .int i => decide (0 ≤ i) && (VW.getI m i).isSome
  | _ => false
theorem inI_no {m : List (Int × VW.D)} {d : PyData} (h : numD d = false) : inI m d = false := by
  cases d with
  | int i =>
    have h : decide (0 ≤ i) = false := h
    show (decide (0 ≤ i) && _) = false
    rw [h, Bool.false_and]
  | _ => rfl
theorem inI_int {m : List (Int × VW.D)} {d : PyData} (h : inI m d = true) : ∃ i v, d = .int i ∧ 0 ≤ i ∧ VW.getI m i = some v := by
  cases d with
  | int i =>
    have h : (decide (0 ≤ i) && (VW.getI m i).isSome) = true := h
    obtain ⟨h1, h2⟩ := Bool.and_eq_true_iff.mp h
    obtain ⟨v, e⟩ := Option.isSome_iff_exists.mp h2
    exact ⟨i, v, rfl, of_decide_eq_true h1, e⟩
  | _ => cases (show false = true from h)
theorem py_int {x : VW.D} {i : Int} (h : VW.py x = some (.int i)) : x = .int i := by
  cases x <;> rw [VW.py] at h
  case int j => cases h; rfl
  case lst xs => cases e : VW.pyAll xs <;> rw [e] at h <;> cases h
  case tup xs => cases e : VW.pyAll xs <;> rw [e] at h <;> cases h
  all_goals first | cases h | (exfalso; simp at h)
def spMost (A : Adr) : VW.SpD := VW.sp1 fun x S P PE => ∃ d, VW.py x = some d ∧ (mostD d = true → P .non S) ∧ (mostD d = false → PE A.c_NoSize (some [("word", .str "most")]) S)
def spFree : VW.SpD := VW.sp1 fun x S P _ => ∃ m, VW.DicK S x (VW.iK m) ∧ m.length < 1000000 ∧ ∀ n : Nat, VW.LeastI m n → P (.int (n : Int)) S
def spSInit (A : Adr) : VW.SpD := VW.sp2 fun x y S P PE => ∃ p d, x = .ref p ∧ S p = some (.ins A.c_Store []) ∧ VW.py y = some d ∧
  (∀ m, d = .int m → mostD d = true → ∀ r h, S r = none → S h = none → r ≠ h → P .non (VW.sup (VW.sup (VW.sup S r (.dK [])) h (.dK [])) p (.ins A.c_Store (sfD m r h)))) ∧ (mostD d = false → PE A.c_NoSize (some [("word", .str "most")]) S)
def spLookR (A : Adr) : VW.SpD := VW.sp2 fun x y S P PE => ∃ p n r h rm hm d, x = .ref p ∧ Sto A.c_Store S p n r h rm hm ∧ VW.py y = some d ∧ (inI rm d = true → P .non S) ∧ (inI rm d = false → PE A.c_NoRoom (some [("room", y)]) S)
def spLookF (A : Adr) : VW.SpD := VW.sp2 fun x y S P PE => ∃ p n r h rm hm k, x = .ref p ∧ Sto A.c_Store S p n r h rm hm ∧ y = .int k ∧ ((rm.length : Int) + k ≤ n → P .non S) ∧ (n < (rm.length : Int) + k → PE A.c_Full (some [("many", .int n)]) S)
def spPut (A : Adr) : VW.SpD := VW.sp2 fun x y S P PE => ∃ p n r h rm hm d, x = .ref p ∧ Sto A.c_Store S p n r h rm hm ∧ VW.py y = some d ∧ rm.length < 100000 ∧ (recD d = false → PE A.c_NoRecord none S) ∧
  (recD d = true → n < (rm.length : Int) + 1 → PE A.c_Full (some [("many", .int n)]) S) ∧ (recD d = true → (rm.length : Int) + 1 ≤ n → ∀ k : Nat, VW.LeastI rm k → P (.int (k : Int)) (VW.sup S r (.dK (VW.iK (VW.putI rm k y)))))
def spAt (A : Adr) : VW.SpD := VW.sp2 fun x y S P PE => ∃ p n r h rm hm d, x = .ref p ∧ Sto A.c_Store S p n r h rm hm ∧ VW.py y = some d ∧ (∀ i v, d = .int i → 0 ≤ i → VW.getI rm i = some v → P v S) ∧ (inI rm d = false → PE A.c_NoRoom (some [("room", y)]) S)
def spLetGo (A : Adr) : VW.SpD := VW.sp2 fun x y S P PE => ∃ p n r h rm hm d, x = .ref p ∧ Sto A.c_Store S p n r h rm hm ∧ VW.py y = some d ∧ (∀ i v, d = .int i → 0 ≤ i → VW.getI rm i = some v → P v (VW.sup S r (.dK (VW.iK (VW.dropI rm i))))) ∧ (inI rm d = false → PE A.c_NoRoom (some [("room", y)]) S)
def spRooms (A : Adr) : VW.SpD := VW.sp1 fun x S P _ => ∃ p n r h rm hm, x = .ref p ∧ Sto A.c_Store S p n r h rm hm ∧ (rm.map (·.1)).Nodup ∧ rm.length < 64 ∧ ∀ m a, m.Perm rm → S a = none → P (.ref a) (VW.sup S a (.dK (VW.iK m)))
def spLen (A : Adr) : VW.SpD := VW.sp1 fun x S P _ => ∃ p n r h rm hm, x = .ref p ∧ Sto A.c_Store S p n r h rm hm ∧ P (.int (rm.length : Int)) S
def spHeads (A : Adr) : VW.SpD := VW.sp1 fun x S P _ => ∃ p n r h rm hm, x = .ref p ∧ Sto A.c_Store S p n r h rm hm ∧ (hm.map (·.1)).Nodup ∧ hm.length < 64 ∧ ∀ m a, m.Perm hm → S a = none → P (.ref a) (VW.sup S a (.dK (VW.iK m)))

theorem sizeL {n : Nat} (h : n ≤ 1000000) : n < sizeLine := by rw [sizeLine_eq]; omega
theorem ok_look_at_most (T : Txt w K mg A) : FnOk P w K mg base (L2.CX P w) 3 A.a_look_at_most A.d_look_at_most ["most"] (VW.upSp K (spMost A)) := by
  refine T.F_look_at_most.okX sc_look_at_most (VW.upSp.len VW.sp1_len) (fun cdv A' outer s H vs Q E hr h => ?_)
  obtain ⟨F, S, ds, P', PE, rh, hv, ⟨x1, rfl, h⟩, lv, lx⟩ := h
  haveI : VW.XLe K F E PE := ⟨lx⟩
  have hu := hu_of hr
  obtain ⟨_, v_MOST_ROOMS⟩ := T.v_MOST_ROOMS
  refine ⟨_, (pss_one (ps_if (PW.pt (pw_or (pt_not (pt_val (pe_call (ok_is_whole T) (hr.mono (by decide)) rfl T.m_is_whole T.F_is_whole.kp T.b_is_whole .nil VW.pass0F (pa_cons (pv 0) pa_nil)))) (pw_or1 (pt_not (pt_chain op_le op_le pe_int (pv 0) (pe_glob (v := V.int 9999) rfl v_MOST_ROOMS ⟨_, rfl⟩))))))
      (pss_one (VW.ps_raiseV rfl (takes_of rfl rfl rfl rfl) (ER.pmk_own T.ow_NoSize T.ic_NoSize T.ti_NoSize (ok_NoSize_init T) (hr.mono (by decide)) T.b_NoSize_init .nil pass0 (by rfl) T.mg_NoSize (pa_cons pe_str pa_nil))))
      pss_nil)), ?_⟩
  try dsimp only [cxOf, Cx.nox, Cx.wish, List.map]
  refine VW.body_up rh hv lv ?_
  obtain ⟨d, hd, k1, k2⟩ := h
  walk_at "v"
  cases c : wholeD d with
  | false =>
    have c' := most_no c
    walk_at "v"
    exact k2 c'
  | true =>
    obtain ⟨i, rfl⟩ := whole_int c
    obtain rfl := py_int hd
    have em : mostD (.int i) = (decide (1 ≤ i) && decide (i ≤ 9999)) := rfl
    rw [em] at k1 k2
    walk_at "v"
    with_reducible refine by2 (fun c1 => ?_) (fun c1 => ?_) <;> rw [c1] at k1 k2
    · walk_at "v"
      cases c2 : decide (i ≤ 9999) with
      | true => rw [c2] at k1 k2; walk_at "v"; exact k1 rfl
      | false => rw [c2] at k1 k2; walk_at "v"; exact k2 rfl
    · walk_at "v"
      exact k2 rfl
theorem ok_least_free (T : Txt w K mg A) : FnOk P w K mg base CX0 1 A.a_least_free A.d_least_free ["taken"] (VW.upSp K (spFree)) := by
  refine T.F_least_free.ok sc_least_free (VW.upSp.len VW.sp1_len) (fun cdv A' outer s H vs Q E hr h => ?_)
  obtain ⟨F, S, ds, P', PE, rh, hv, ⟨x1, rfl, h⟩, lv, lx⟩ := h
  haveI : VW.XLe K F E PE := ⟨lx⟩
  have hu := hu_of hr
  refine ⟨_, (pss_cons (ps_set (i := 1) sc_least_free.nd rfl (Or.inl rfl) pe_int)
      (VW.cutAt (ps_while PassesOwn.never (pt_cmp (pc_din hu (pv 1) (pv 0)))
      (pss_one (ps_aug (i := 1) sc_least_free.nd rfl (Or.inl rfl) pe_int ip_add)))
      (pss_one (ps_ret (pv 1))))), ?_⟩
  try dsimp only [cxOf, Cx.nox, Cx.wish, List.map]
  refine VW.body_up rh hv lv ?_
  obtain ⟨m, hm, hl, k⟩ := h
  walk_at "v"
  refine ⟨fun env S' => Wrap (∃ n : Nat, env = [some x1, some (.int (n : Int))] ∧ S' = S ∧ VW.LeastI m n), ?_, ?_⟩
  · refine ⟨fun k env S' => ∃ i : Nat, k = m.length - i ∧ env = [some x1, some (.int (i : Int))] ∧ S' = S ∧ ∀ j : Nat, j < i → (VW.getI m (j : Int)).isSome = true, ⟨_, 0, rfl, rfl, rfl, fun j hj => absurd hj (Nat.not_lt_zero j)⟩, ?_⟩
    rintro k env S' ⟨i, rfl, rfl, rfl, hi⟩
    walk_at "v"
    cases c : VW.getI m (i : Int) with
    | none =>
      walk_at "v"
      exact ⟨i, rfl, rfl, c, hi⟩
    | some v =>
      walk_at "v"
      have hi' : ∀ j : Nat, j < i + 1 → (VW.getI m (j : Int)).isSome = true := fun j hj => by
        by_cases e : j = i
        · rw [e, c]; rfl
        · exact hi j (by omega)
      have hle := VW.least_leI hi'
      exact ⟨m.length - (i + 1), by omega, i + 1, rfl, by simp, rfl, hi'⟩
  · rintro env S' ⟨n, rfl, rfl, hn⟩
    walk_at "v"
    exact k n hn
theorem ok_Store_init (T : Txt w K mg A) : FnOk P w K mg base (L2.CX P w) 4 A.a_Store_init A.d_Store_init ["self", "most"] (VW.upSp K (spSInit A)) := by
  refine T.F_Store_init.okX sc_Store_init (VW.upSp.len VW.sp2_len) (fun cdv A' outer s H vs Q E hr h => ?_)
  obtain ⟨F, S, ds, P', PE, rh, hv, ⟨x1, x2, rfl, h⟩, lv, lx⟩ := h
  haveI : VW.XLe K F E PE := ⟨lx⟩
  have hu := hu_of hr
  refine ⟨_, (pss_cons (ps_expr (pe_call (ok_look_at_most T) (hr.mono (by decide)) rfl T.m_look_at_most T.F_look_at_most.kp T.b_look_at_most .nil (passes_call (takes_of rfl rfl rfl rfl) fun _ _ _ _ h => h) (pa_cons (pv 1) pa_nil)))
      (pss_cons (ps_fld (pv 0) (pv 1) rfl)
      (pss_cons (ps_fld (pv 0) pe_dnewK rfl)
      (pss_one (ps_fld (pv 0) pe_dnewK rfl))))), ?_⟩
  try dsimp only [cxOf, Cx.nox, Cx.wish, List.map]
  refine VW.body_up rh hv lv ?_
  obtain ⟨p, d, rfl, hp, hd, k1, k2⟩ := h
  have cl := T.cl_Store; have n1 := T.no_Store_own_most; have n2 := T.no_Store_own_rooms; have n3 := T.no_Store_own_heads
  walk_at "v"
  refine ⟨fun c => ?_, k2⟩
  walk_at "v"
  intro r hr0
  obtain ⟨np, hr1⟩ := VW.sup_none hr0
  walk_at "v"
  intro h hh0
  obtain ⟨hp2, hh1⟩ := VW.sup_none hh0
  obtain ⟨hr2, hh2⟩ := VW.sup_none hh1
  obtain ⟨_, hh3⟩ := VW.sup_none hh2
  walk_at "v"
  obtain ⟨m, rfl⟩ : ∃ m, d = .int m := by cases d <;> first | exact ⟨_, rfl⟩ | cases (show false = true from c)
  obtain rfl := py_int hd
  have k := k1 m rfl c r h hr1 hh3 hr2.symm
  rw [sfD_made]
  refine (congrArg (P' .non) ?_).mp k
  funext b
  unfold VW.sup
  by_cases e1 : b = p
  · simp [e1]
  · by_cases e2 : b = h
    · simp [e2]
    · simp [e1, e2]
theorem ok_Store_look_at_room (T : Txt w K mg A) : FnOk P w K mg base (L2.CX P w) 3 A.a_Store_look_at_room A.d_Store_look_at_room ["self", "room"] (VW.upSp K (spLookR A)) := by
  refine T.F_Store_look_at_room.okX sc_Store_look_at_room (VW.upSp.len VW.sp2_len) (fun cdv A' outer s H vs Q E hr h => ?_)
  obtain ⟨F, S, ds, P', PE, rh, hv, ⟨x1, x2, rfl, h⟩, lv, lx⟩ := h
  haveI : VW.XLe K F E PE := ⟨lx⟩
  have hu := hu_of hr
  refine ⟨_, (pss_one (ps_if (PW.pt (pw_or (pt_not (pt_val (pe_call (ok_is_number T) (hr.mono (by decide)) rfl T.m_is_number T.F_is_number.kp T.b_is_number .nil VW.pass0F (pa_cons (pv 1) pa_nil)))) (pw_or1 (pt_cmp (pc_dnotin hu (pv 1) (pe_fld (pv 0) rfl))))))
      (pss_one (VW.ps_raiseV rfl (takes_of rfl rfl rfl rfl) (ER.pmk_own T.ow_NoRoom T.ic_NoRoom T.ti_NoRoom (ok_NoRoom_init T) (hr.mono (by decide)) T.b_NoRoom_init .nil pass0 (by rfl) T.mg_NoRoom (pa_cons (pv 1) pa_nil))))
      pss_nil)), ?_⟩
  try dsimp only [cxOf, Cx.nox, Cx.wish, List.map]
  refine VW.body_up rh hv lv ?_
  obtain ⟨p, n, r, h, rm, hm, d, rfl, st, hd, k1, k2⟩ := h
  have cl := T.cl_Store; have n1 := T.no_Store_own_most; have n2 := T.no_Store_own_rooms; have n3 := T.no_Store_own_heads
  have fm := sfD_most n r h; have fr := sfD_rooms n r h; have fh := sfD_heads n r h
  have a1 := st.ap; have a2 := st.ar; have a3 := st.ah
  walk_at "v"
  cases c : numD d with
  | false => 
    walk_at "v"
    exact k2 (inI_no c)
  | true =>
    obtain ⟨i, rfl, i0⟩ := num_int c
    obtain rfl := py_int hd
    have ei : inI rm (.int i) = (decide (0 ≤ i) && (VW.getI rm i).isSome) := rfl
    rw [ei, decide_eq_true i0, Bool.true_and] at k1 k2
    walk_at "v"
    cases c : VW.getI rm i with
    | none => rw [c] at k1 k2; walk_at "v"; exact k2 rfl
    | some v => rw [c] at k1 k2; walk_at "v"; exact k1 rfl
theorem ok_Store_look_at_free (T : Txt w K mg A) : FnOk P w K mg base (L2.CX P w) 3 A.a_Store_look_at_free A.d_Store_look_at_free ["self", "many"] (VW.upSp K (spLookF A)) := by
  refine T.F_Store_look_at_free.okX sc_Store_look_at_free (VW.upSp.len VW.sp2_len) (fun cdv A' outer s H vs Q E hr h => ?_)
  obtain ⟨F, S, ds, P', PE, rh, hv, ⟨x1, x2, rfl, h⟩, lv, lx⟩ := h
  haveI : VW.XLe K F E PE := ⟨lx⟩
  have hu := hu_of hr
  refine ⟨_, (pss_one (ps_if (pt_cmpR op_gt (pe_op op_add (pe_callB VW.call_lenA (by rfl) T.n_len PySem.boot_len (pa_cons (pe_fld (pv 0) rfl) pa_nil)) (pv 1)) (pe_fld (pv 0) rfl) (nomark _))
      (pss_one (VW.ps_raiseV rfl (takes_of rfl rfl rfl rfl) (ER.pmk_own T.ow_Full T.ic_Full T.ti_Full (ok_Full_init T) (hr.mono (by decide)) T.b_Full_init .nil pass0 (by rfl) T.mg_Full (pa_cons (pe_fld (pv 0) rfl) pa_nil))))
      pss_nil)), ?_⟩
  try dsimp only [cxOf, Cx.nox, Cx.wish, List.map]
  refine VW.body_up rh hv lv ?_
  obtain ⟨p, n, r, h, rm, hm, k, rfl, st, rfl, k1, k2⟩ := h
  have cl := T.cl_Store; have n1 := T.no_Store_own_most; have n2 := T.no_Store_own_rooms; have n3 := T.no_Store_own_heads
  have fm := sfD_most n r h; have fr := sfD_rooms n r h; have fh := sfD_heads n r h
  have a1 := st.ap; have a2 := st.ar; have a3 := st.ah
  walk_at "v"
  rw [VW.iK_len]
  with_reducible refine by2 (fun c1 => ?_) (fun c1 => ?_)
  · walk_at "v"
    exact k2 (of_decide_eq_true c1)
  · walk_at "v"
    have := of_decide_eq_false c1
    exact k1 (by omega)
theorem ok_Store_put_in (T : Txt w K mg A) : FnOk P w K mg base (L2.CX P w) 6 A.a_Store_put_in A.d_Store_put_in ["self", "record"] (VW.upSp K (spPut A)) := by
  refine T.F_Store_put_in.okX sc_Store_put_in (VW.upSp.len VW.sp2_len) (fun cdv A' outer s H vs Q E hr h => ?_)
  obtain ⟨F, S, ds, P', PE, rh, hv, ⟨x1, x2, rfl, h⟩, lv, lx⟩ := h
  haveI : VW.XLe K F E PE := ⟨lx⟩
  have hu := hu_of hr
  refine ⟨_, (pss_cons (ps_if (pt_not (pt_val (pe_call (ok_is_record T) (hr.mono (by decide)) rfl T.m_is_record T.F_is_record.kp T.b_is_record .nil VW.pass0F (pa_cons (pv 1) pa_nil))))
      (pss_one (VW.ps_raisePV rfl (takes_of rfl rfl rfl rfl) (L2.pmk_own PySem.F.excBase_ValueError T.ex_NoRecord T.mg_NoRecord T.kc_NoRecord (raises_own T.sb_NoRecord T.ty_NoRecord) (by exact rfl))))
      pss_nil)
      (pss_cons (ps_expr (pe_meth (pv 0) T.cl_Store T.me_Store_look_at_free (ok_Store_look_at_free T) (hr.mono (by decide)) T.b_Store_look_at_free .nil (passes_call (takes_of rfl rfl rfl rfl) fun _ _ _ _ h => h) (pa_cons pe_int pa_nil)))
      (pss_cons (ps_set (i := 2) sc_Store_put_in.nd rfl (Or.inl rfl) (pe_call (ok_least_free T) (hr.mono (by decide)) rfl T.m_least_free T.F_least_free.kp T.b_least_free .nil VW.pass0F (pa_cons (pe_fld (pv 0) rfl) pa_nil)))
      (pss_cons (ps_dput hu (pe_fld (pv 0) rfl) (pv 2) (pv 1) rfl)
      (pss_one (ps_ret (pv 2))))))), ?_⟩
  try dsimp only [cxOf, Cx.nox, Cx.wish, List.map]
  refine VW.body_up rh hv lv ?_
  obtain ⟨p, n, r, h, rm, hm, d, rfl, st, hd, hl, k1, k2, k3⟩ := h
  have cl := T.cl_Store; have n1 := T.no_Store_own_most; have n2 := T.no_Store_own_rooms; have n3 := T.no_Store_own_heads
  have fm := sfD_most n r h; have fr := sfD_rooms n r h; have fh := sfD_heads n r h
  have a1 := st.ap; have a2 := st.ar; have a3 := st.ah
  have no : (sfD n r h).lookup ("look_at_free" : Str) = none := sfD_no _ _ _ (by decide +kernel) (by decide +kernel) (by decide +kernel)
  walk_at "v"
  cases c : recD d with
  | false => walk_at "v"; exact k1 c
  | true =>
    walk_at "v"
    refine ⟨fun hle => ?_, fun hlt => k2 c hlt⟩
    walk_at "v"
    intro k hk
    have hs := sizeL (n := rm.length) (by omega)
    walk_at "v"
    exact k3 c hle k hk
theorem ok_Store___len__ (T : Txt w K mg A) : FnOk P w K mg base CX0 1 A.a_Store___len__ A.d_Store___len__ ["self"] (VW.upSp K (spLen A)) := by
  refine T.F_Store___len__.ok sc_Store___len__ (VW.upSp.len VW.sp1_len) (fun cdv A' outer s H vs Q E hr h => ?_)
  obtain ⟨F, S, ds, P', PE, rh, hv, ⟨x1, rfl, h⟩, lv, lx⟩ := h
  haveI : VW.XLe K F E PE := ⟨lx⟩
  have hu := hu_of hr
  refine ⟨_, (pss_one (ps_ret (pe_callB VW.call_lenA (by rfl) T.n_len PySem.boot_len (pa_cons (pe_fld (pv 0) rfl) pa_nil)))), ?_⟩
  try dsimp only [cxOf, Cx.nox, Cx.wish, List.map]
  refine VW.body_up rh hv lv ?_
  obtain ⟨p, n, r, h, rm, hm, rfl, st, k1⟩ := h
  have cl := T.cl_Store; have n1 := T.no_Store_own_most; have n2 := T.no_Store_own_rooms; have n3 := T.no_Store_own_heads
  have fm := sfD_most n r h; have fr := sfD_rooms n r h; have fh := sfD_heads n r h
  have a1 := st.ap; have a2 := st.ar; have a3 := st.ah
  walk_at "v"
  rw [VW.iK_len]
  exact k1
theorem perm_sel {m : List (Int × VW.D)} (nd : (m.map (·.1)).Nodup) {ys : List Int} (hp : ys.Perm (m.map (·.1))) : ∃ l, l.Perm m ∧ l.map (·.1) = ys ∧ ys.map (fun i => (i, (VW.getI m i).getD .non)) = l := by
  refine ⟨ys.map fun i => (i, (VW.getI m i).getD .non), ?_, by rw [List.map_map]; exact List.map_id _, rfl⟩
  have h := hp.map fun i => (i, (VW.getI m i).getD .non)
  refine h.trans (List.Perm.of_eq ?_)
  rw [List.map_map]
  refine (List.map_congr_left fun q hq => ?_).trans (List.map_id m)
  show (q.1, (VW.getI m q.1).getD .non) = id q
  rw [VW.getI_of_mem nd (show (q.1, q.2) ∈ m from hq)]; rfl
theorem ok_Store_rooms (T : Txt w K mg A) : FnOk P w K mg base CX0 1 A.a_Store_rooms A.d_Store_rooms ["self"] (VW.upSp K (spRooms A)) := by
  refine T.F_Store_rooms.ok sc_Store_rooms (VW.upSp.len VW.sp1_len) (fun cdv A' outer s H vs Q E hr h => ?_)
  obtain ⟨F, S, ds, P', PE, rh, hv, ⟨x1, rfl, h⟩, lv, lx⟩ := h
  haveI : VW.XLe K F E PE := ⟨lx⟩
  have hu := hu_of hr
  refine ⟨_, (pss_one (ps_ret (pe_dc (own := [("room", 1)]) rfl sc_Store_rooms.nd (pi_list (VW.pe_kp (pe_callB (VW.call_sortDI rfl) (by rfl) T.n_sorted (by decide +kernel) (pa_cons (pe_fld (pv 0) rfl) pa_nil)))) (blkOk_by (own := [("room", 1)]) (N := n_Store_rooms) (sc := defScope s_Store_rooms) (by decide +kernel)) (fun _ _ _ _ _ => viaG (pg_name (i := 1) sc_Store_rooms.nd rfl (Or.inl rfl)) (by first | rfl | (dsimp only [Cx.blk]; done) | (dsimp only [Cx.blk]; rfl))) (fun _ _ _ _ _ => viaT pts_nil (by first | rfl | (dsimp only [Cx.blk]; done) | (dsimp only [Cx.blk]; rfl))) (fun _ _ _ _ _ => viaE (pv 1) (by first | rfl | (dsimp only [Cx.blk]; done) | (dsimp only [Cx.blk]; rfl))) (fun _ _ _ _ _ => viaE (pe_dget hu (pe_fld (pv 0) rfl) (pv 1) (fun _ _ => rfl)) (by first | rfl | (dsimp only [Cx.blk]; done) | (dsimp only [Cx.blk]; rfl)))))), ?_⟩
  try dsimp only [cxOf, Cx.nox, Cx.wish, List.map]
  refine VW.body_up rh hv lv ?_
  obtain ⟨p, n, r, h, rm, hm, rfl, st, nd, hl, k⟩ := h
  have cl := T.cl_Store; have n1 := T.no_Store_own_most; have n2 := T.no_Store_own_rooms; have n3 := T.no_Store_own_heads
  have fm := sfD_most n r h; have fr := sfD_rooms n r h; have fh := sfD_heads n r h
  have a1 := st.ap; have a2 := st.ar; have a3 := st.ah
  walk_at "v"
  rintro ys ⟨hp, hs⟩
  obtain ⟨l, hl1, hl2, hl3⟩ := perm_sel nd hp
  have nl : (l.map (·.1)).Nodup := (hl1.map _).nodup_iff.mpr nd
  walk_at "v"
  refine VW.dcM_pure (ys.map VW.D.int) (fun x => match x with | .int i => some (.inl i, (VW.getI rm i).getD .non) | _ => none) rfl (fun i d _ e => e) (by rw [List.length_map, hp.length_eq, List.length_map]; exact small1000 (by omega)) (fun _ _ _ => Or.inl rfl) ?_ ?_
  · intro d L u Zy Zn hd hL hy hn
    obtain ⟨i, hi, rfl⟩ := List.mem_map.mp hd
    have him : ∃ v, VW.getI rm i = some v := by
      cases e : VW.getI rm i with
      | some v => exact ⟨v, rfl⟩
      | none => exact absurd (hp.mem_iff.mp hi) (VW.getI_none.mp e)
    obtain ⟨v, gv⟩ := him
    have hy := hy (.inl i, (VW.getI rm i).getD .non) rfl
    rw [gv] at hy
    have n1 : p ≠ L := VW.sne_of a1 hL
    have n2 : r ≠ L := VW.sne_of a2 hL
    walk_at "v"
    exact hy
  · intro L hL
    have e : (ys.map VW.D.int).filterMap (fun x => match x with | .int i => some ((Sum.inl i : Key), (VW.getI rm i).getD .non) | _ => none) = VW.iK l := by
      rw [← hl3, VW.iK, List.map_map, List.filterMap_map]
      show List.filterMap (fun i => some ((Sum.inl i : Key), (VW.getI rm i).getD .non)) ys = _
      rw [← List.filterMap_eq_map]; rfl
    rw [e, VW.foldK_new nl]
    exact k l L hl1 hL
theorem ok_Store_heads (T : Txt w K mg A) : FnOk P w K mg base CX0 1 A.a_Store_heads A.d_Store_heads ["self"] (VW.upSp K (spHeads A)) := by
  refine T.F_Store_heads.ok sc_Store_heads (VW.upSp.len VW.sp1_len) (fun cdv A' outer s H vs Q E hr h => ?_)
  obtain ⟨F, S, ds, P', PE, rh, hv, ⟨x1, rfl, h⟩, lv, lx⟩ := h
  haveI : VW.XLe K F E PE := ⟨lx⟩
  have hu := hu_of hr
  refine ⟨_, (pss_one (ps_ret (pe_dc (own := [("slot", 1)]) rfl sc_Store_heads.nd (pi_list (VW.pe_kp (pe_callB (VW.call_sortDI rfl) (by rfl) T.n_sorted (by decide +kernel) (pa_cons (pe_fld (pv 0) rfl) pa_nil)))) (blkOk_by (own := [("slot", 1)]) (N := n_Store_heads) (sc := defScope s_Store_heads) (by decide +kernel)) (fun _ _ _ _ _ => viaG (pg_name (i := 1) sc_Store_heads.nd rfl (Or.inl rfl)) (by first | rfl | (dsimp only [Cx.blk]; done) | (dsimp only [Cx.blk]; rfl))) (fun _ _ _ _ _ => viaT pts_nil (by first | rfl | (dsimp only [Cx.blk]; done) | (dsimp only [Cx.blk]; rfl))) (fun _ _ _ _ _ => viaE (pv 1) (by first | rfl | (dsimp only [Cx.blk]; done) | (dsimp only [Cx.blk]; rfl))) (fun _ _ _ _ _ => viaE (pe_dget hu (pe_fld (pv 0) rfl) (pv 1) (fun _ _ => rfl)) (by first | rfl | (dsimp only [Cx.blk]; done) | (dsimp only [Cx.blk]; rfl)))))), ?_⟩
  try dsimp only [cxOf, Cx.nox, Cx.wish, List.map]
  refine VW.body_up rh hv lv ?_
  obtain ⟨p, n, r, h, rm, hm, rfl, st, nd, hl, k⟩ := h
  have cl := T.cl_Store; have n1 := T.no_Store_own_most; have n2 := T.no_Store_own_rooms; have n3 := T.no_Store_own_heads
  have fm := sfD_most n r h; have fr := sfD_rooms n r h; have fh := sfD_heads n r h
  have a1 := st.ap; have a2 := st.ar; have a3 := st.ah
  walk_at "v"
  rintro ys ⟨hp, hs⟩
  obtain ⟨l, hl1, hl2, hl3⟩ := perm_sel nd hp
  have nl : (l.map (·.1)).Nodup := (hl1.map _).nodup_iff.mpr nd
  walk_at "v"
  refine VW.dcM_pure (ys.map VW.D.int) (fun x => match x with | .int i => some (.inl i, (VW.getI hm i).getD .non) | _ => none) rfl (fun i d _ e => e) (by rw [List.length_map, hp.length_eq, List.length_map]; exact small1000 (by omega)) (fun _ _ _ => Or.inl rfl) ?_ ?_
  · intro d L u Zy Zn hd hL hy hn
    obtain ⟨i, hi, rfl⟩ := List.mem_map.mp hd
    have him : ∃ v, VW.getI hm i = some v := by
      cases e : VW.getI hm i with
      | some v => exact ⟨v, rfl⟩
      | none => exact absurd (hp.mem_iff.mp hi) (VW.getI_none.mp e)
    obtain ⟨v, gv⟩ := him
    have hy := hy (.inl i, (VW.getI hm i).getD .non) rfl
    rw [gv] at hy
    have n1 : p ≠ L := VW.sne_of a1 hL
    have n2 : h ≠ L := VW.sne_of a3 hL
    walk_at "v"
    exact hy
  · intro L hL
    have e : (ys.map VW.D.int).filterMap (fun x => match x with | .int i => some ((Sum.inl i : Key), (VW.getI hm i).getD .non) | _ => none) = VW.iK l := by
      rw [← hl3, VW.iK, List.map_map, List.filterMap_map]
      show List.filterMap (fun i => some ((Sum.inl i : Key), (VW.getI hm i).getD .non)) ys = _
      rw [← List.filterMap_eq_map]; rfl
    rw [e, VW.foldK_new nl]
    exact k l L hl1 hL

/-! ### the store's slots -/
def spLookS (A : Adr) : VW.SpD := VW.sp2 fun x y S P PE => ∃ p n r h rm hm d, x = .ref p ∧ Sto A.c_Store S p n r h rm hm ∧ VW.py y = some d ∧ (inI hm d = true → P .non S) ∧ (inI hm d = false → PE A.c_NoSlot (some [("slot", y)]) S)
def spLoad (A : Adr) : VW.SpD := VW.sp2 fun x y S P PE => ∃ p n r h rm hm d, x = .ref p ∧ Sto A.c_Store S p n r h rm hm ∧ VW.py y = some d ∧ (∀ i v, d = .int i → 0 ≤ i → VW.getI hm i = some v → P v S) ∧ (inI hm d = false → PE A.c_NoSlot (some [("slot", y)]) S)
def spDrop (A : Adr) : VW.SpD := VW.sp2 fun x y S P PE => ∃ p n r h rm hm d, x = .ref p ∧ Sto A.c_Store S p n r h rm hm ∧ VW.py y = some d ∧ (∀ i v, d = .int i → 0 ≤ i → VW.getI hm i = some v → P v (VW.sup S h (.dK (VW.iK (VW.dropI hm i))))) ∧ (inI hm d = false → PE A.c_NoSlot (some [("slot", y)]) S)
def spNewSlot (A : Adr) : VW.SpD := VW.sp2 fun x y S P PE => ∃ p n r h rm hm d, x = .ref p ∧ Sto A.c_Store S p n r h rm hm ∧ VW.py y = some d ∧ hm.length < 100000 ∧ (inI rm d = false → PE A.c_NoRoom (some [("room", y)]) S) ∧
  (inI rm d = true → ∀ k : Nat, VW.LeastI hm k → P (.int (k : Int)) (VW.sup S h (.dK (VW.iK (VW.putI hm k y)))))
/-- two things are the same number -/
def isI (v : VW.D) : PyData → Bool
  | .int j => decide (0 ≤ j) && (match v with
    | .int i => decide (i = j)
    | _ => false)
  | _ => false
def spSwap (A : Adr) : VW.SpD := VW.sp4 fun x y z u S P PE => ∃ p n r h rm hm ds do_ dn, x = .ref p ∧ Sto A.c_Store S p n r h rm hm ∧ VW.py y = some ds ∧ VW.py z = some do_ ∧ VW.py u = some dn ∧ hm.length < 100000 ∧ (∀ i v, VW.getI hm i = some v → ∃ m, v = .int m) ∧ (inI hm ds = false → PE A.c_NoSlot (some [("slot", y)]) S) ∧
  (inI hm ds = true → inI rm dn = false → PE A.c_NoRoom (some [("room", u)]) S) ∧
  (∀ i v, ds = .int i → VW.getI hm i = some v → inI hm ds = true → inI rm dn = true → isI v do_ = false → P (.bl false) S) ∧
  (∀ i v, ds = .int i → VW.getI hm i = some v → inI hm ds = true → inI rm dn = true → isI v do_ = true → P (.bl true) (VW.sup S h (.dK (VW.iK (VW.putI hm i u)))))

theorem ok_Store_look_at_slot (T : Txt w K mg A) : FnOk P w K mg base (L2.CX P w) 3 A.a_Store_look_at_slot A.d_Store_look_at_slot ["self", "slot"] (VW.upSp K (spLookS A)) := by
  refine T.F_Store_look_at_slot.okX sc_Store_look_at_slot (VW.upSp.len VW.sp2_len) (fun cdv A' outer s H vs Q E hr h => ?_)
  obtain ⟨F, S, ds, P', PE, rh, hv, ⟨x1, x2, rfl, h⟩, lv, lx⟩ := h
  haveI : VW.XLe K F E PE := ⟨lx⟩
  have hu := hu_of hr
  refine ⟨_, (pss_one (ps_if (PW.pt (pw_or (pt_not (pt_val (pe_call (ok_is_number T) (hr.mono (by decide)) rfl T.m_is_number T.F_is_number.kp T.b_is_number .nil VW.pass0F (pa_cons (pv 1) pa_nil)))) (pw_or1 (pt_cmp (pc_dnotin hu (pv 1) (pe_fld (pv 0) rfl))))))
      (pss_one (VW.ps_raiseV rfl (takes_of rfl rfl rfl rfl) (ER.pmk_own T.ow_NoSlot T.ic_NoSlot T.ti_NoSlot (ok_NoSlot_init T) (hr.mono (by decide)) T.b_NoSlot_init .nil pass0 (by rfl) T.mg_NoSlot (pa_cons (pv 1) pa_nil))))
      pss_nil)), ?_⟩
  try dsimp only [cxOf, Cx.nox, Cx.wish, List.map]
  refine VW.body_up rh hv lv ?_
  obtain ⟨p, n, r, h, rm, hm, d, rfl, st, hd, k1, k2⟩ := h
  have cl := T.cl_Store; have n1 := T.no_Store_own_most; have n2 := T.no_Store_own_rooms; have n3 := T.no_Store_own_heads
  have fm := sfD_most n r h; have fr := sfD_rooms n r h; have fh := sfD_heads n r h
  have a1 := st.ap; have a2 := st.ar; have a3 := st.ah
  walk_at "v"
  cases c : numD d with
  | false =>
    walk_at "v"
    exact k2 (inI_no c)
  | true =>
    obtain ⟨i, rfl, i0⟩ := num_int c
    obtain rfl := py_int hd
    have ei : inI hm (.int i) = (decide (0 ≤ i) && (VW.getI hm i).isSome) := rfl
    rw [ei, decide_eq_true i0, Bool.true_and] at k1 k2
    walk_at "v"
    cases c : VW.getI hm i with
    | none => rw [c] at k1 k2; walk_at "v"; exact k2 rfl
    | some v => rw [c] at k1 k2; walk_at "v"; exact k1 rfl
theorem ok_Store_new_slot (T : Txt w K mg A) : FnOk P w K mg base (L2.CX P w) 5 A.a_Store_new_slot A.d_Store_new_slot ["self", "head"] (VW.upSp K (spNewSlot A)) := by
  refine T.F_Store_new_slot.okX sc_Store_new_slot (VW.upSp.len VW.sp2_len) (fun cdv A' outer s H vs Q E hr h => ?_)
  obtain ⟨F, S, ds, P', PE, rh, hv, ⟨x1, x2, rfl, h⟩, lv, lx⟩ := h
  haveI : VW.XLe K F E PE := ⟨lx⟩
  have hu := hu_of hr
  refine ⟨_, (pss_cons (ps_expr (pe_meth (pv 0) T.cl_Store T.me_Store_look_at_room (ok_Store_look_at_room T) (hr.mono (by decide)) T.b_Store_look_at_room .nil (passes_call (takes_of rfl rfl rfl rfl) fun _ _ _ _ h => h) (pa_cons (pv 1) pa_nil)))
      (pss_cons (ps_set (i := 2) sc_Store_new_slot.nd rfl (Or.inl rfl) (pe_call (ok_least_free T) (hr.mono (by decide)) rfl T.m_least_free T.F_least_free.kp T.b_least_free .nil VW.pass0F (pa_cons (pe_fld (pv 0) rfl) pa_nil)))
      (pss_cons (ps_dput hu (pe_fld (pv 0) rfl) (pv 2) (pv 1) rfl)
      (pss_one (ps_ret (pv 2)))))), ?_⟩
  try dsimp only [cxOf, Cx.nox, Cx.wish, List.map]
  refine VW.body_up rh hv lv ?_
  obtain ⟨p, n, r, h, rm, hm, d, rfl, st, hd, hl, k1, k2⟩ := h
  have cl := T.cl_Store; have n1 := T.no_Store_own_most; have n2 := T.no_Store_own_rooms; have n3 := T.no_Store_own_heads
  have fm := sfD_most n r h; have fr := sfD_rooms n r h; have fh := sfD_heads n r h
  have a1 := st.ap; have a2 := st.ar; have a3 := st.ah
  have no : (sfD n r h).lookup ("look_at_room" : Str) = none := sfD_no _ _ _ (by decide +kernel) (by decide +kernel) (by decide +kernel)
  walk_at "v"
  refine ⟨fun c => ?_, k1⟩
  walk_at "v"
  intro k hk
  have hs := sizeL (n := hm.length) (by omega)
  walk_at "v"
  exact k2 c k hk
theorem ok_Store_load (T : Txt w K mg A) : FnOk P w K mg base (L2.CX P w) 5 A.a_Store_load A.d_Store_load ["self", "slot"] (VW.upSp K (spLoad A)) := by
  refine T.F_Store_load.okX sc_Store_load (VW.upSp.len VW.sp2_len) (fun cdv A' outer s H vs Q E hr h => ?_)
  obtain ⟨F, S, ds, P', PE, rh, hv, ⟨x1, x2, rfl, h⟩, lv, lx⟩ := h
  haveI : VW.XLe K F E PE := ⟨lx⟩
  have hu := hu_of hr
  refine ⟨_, (pss_cons (ps_expr (pe_meth (pv 0) T.cl_Store T.me_Store_look_at_slot (ok_Store_look_at_slot T) (hr.mono (by decide)) T.b_Store_look_at_slot .nil (passes_call (takes_of rfl rfl rfl rfl) fun _ _ _ _ h => h) (pa_cons (pv 1) pa_nil)))
      (pss_one (ps_ret (pe_dget hu (pe_fld (pv 0) rfl) (pv 1) (fun _ _ => rfl))))), ?_⟩
  try dsimp only [cxOf, Cx.nox, Cx.wish, List.map]
  refine VW.body_up rh hv lv ?_
  obtain ⟨p, n, r, h, rm, hm, d, rfl, st, hd, k1, k2⟩ := h
  have cl := T.cl_Store; have n1 := T.no_Store_own_most; have n2 := T.no_Store_own_rooms; have n3 := T.no_Store_own_heads
  have fm := sfD_most n r h; have fr := sfD_rooms n r h; have fh := sfD_heads n r h
  have a1 := st.ap; have a2 := st.ar; have a3 := st.ah
  have no : (sfD n r h).lookup ("look_at_slot" : Str) = none := sfD_no _ _ _ (by decide +kernel) (by decide +kernel) (by decide +kernel)
  walk_at "v"
  refine ⟨fun c => ?_, k2⟩
  obtain ⟨i, v, rfl, i0, gv⟩ := inI_int c
  obtain rfl := py_int hd
  walk_at "v"
  exact k1 i v rfl i0 gv
theorem ok_Store_drop (T : Txt w K mg A) : FnOk P w K mg base (L2.CX P w) 5 A.a_Store_drop A.d_Store_drop ["self", "slot"] (VW.upSp K (spDrop A)) := by
  refine T.F_Store_drop.okX sc_Store_drop (VW.upSp.len VW.sp2_len) (fun cdv A' outer s H vs Q E hr h => ?_)
  obtain ⟨F, S, ds, P', PE, rh, hv, ⟨x1, x2, rfl, h⟩, lv, lx⟩ := h
  haveI : VW.XLe K F E PE := ⟨lx⟩
  have hu := hu_of hr
  refine ⟨_, (pss_cons (ps_expr (pe_meth (pv 0) T.cl_Store T.me_Store_look_at_slot (ok_Store_look_at_slot T) (hr.mono (by decide)) T.b_Store_look_at_slot .nil (passes_call (takes_of rfl rfl rfl rfl) fun _ _ _ _ h => h) (pa_cons (pv 1) pa_nil)))
      (pss_one (ps_ret (pe_dpop1 (pe_fld (pv 0) rfl) (pv 1) ⟨rfl, rfl, rfl, rfl⟩)))), ?_⟩
  try dsimp only [cxOf, Cx.nox, Cx.wish, List.map]
  refine VW.body_up rh hv lv ?_
  obtain ⟨p, n, r, h, rm, hm, d, rfl, st, hd, k1, k2⟩ := h
  have cl := T.cl_Store; have n1 := T.no_Store_own_most; have n2 := T.no_Store_own_rooms; have n3 := T.no_Store_own_heads
  have fm := sfD_most n r h; have fr := sfD_rooms n r h; have fh := sfD_heads n r h
  have a1 := st.ap; have a2 := st.ar; have a3 := st.ah
  have no : (sfD n r h).lookup ("look_at_slot" : Str) = none := sfD_no _ _ _ (by decide +kernel) (by decide +kernel) (by decide +kernel)
  walk_at "v"
  refine ⟨fun c => ?_, k2⟩
  obtain ⟨i, v, rfl, i0, gv⟩ := inI_int c
  obtain rfl := py_int hd
  walk_at "v"
  exact k1 i v rfl i0 gv
theorem ok_Store_swap (T : Txt w K mg A) : FnOk P w K mg base (L2.CX P w) 5 A.a_Store_swap A.d_Store_swap ["self", "slot", "old", "new"] (VW.upSp K (spSwap A)) := by
  refine T.F_Store_swap.okX sc_Store_swap (VW.upSp.len VW.sp4_len) (fun cdv A' outer s H vs Q E hr h => ?_)
  obtain ⟨F, S, ds, P', PE, rh, hv, ⟨x1, x2, x3, x4, rfl, h⟩, lv, lx⟩ := h
  haveI : VW.XLe K F E PE := ⟨lx⟩
  have hu := hu_of hr
  refine ⟨_, (pss_cons (ps_expr (pe_meth (pv 0) T.cl_Store T.me_Store_look_at_slot (ok_Store_look_at_slot T) (hr.mono (by decide)) T.b_Store_look_at_slot .nil (passes_call (takes_of rfl rfl rfl rfl) fun _ _ _ _ h => h) (pa_cons (pv 1) pa_nil)))
      (pss_cons (ps_expr (pe_meth (pv 0) T.cl_Store T.me_Store_look_at_room (ok_Store_look_at_room T) (hr.mono (by decide)) T.b_Store_look_at_room .nil (passes_call (takes_of rfl rfl rfl rfl) fun _ _ _ _ h => h) (pa_cons (pv 3) pa_nil)))
      (pss_cons (ps_if (PW.pt (pw_or (pt_not (pt_val (pe_call (ok_is_number T) (hr.mono (by decide)) rfl T.m_is_number T.F_is_number.kp T.b_is_number .nil VW.pass0F (pa_cons (pv 2) pa_nil)))) (pw_or1 (pt_cmpR (VW.op_nePl hr.units) (pe_dget hu (pe_fld (pv 0) rfl) (pv 1) (fun _ _ => rfl)) (pv 2) (nomark _)))))
      (pss_one (ps_ret pe_bl))
      pss_nil)
      (pss_cons (ps_dput hu (pe_fld (pv 0) rfl) (pv 1) (pv 3) rfl)
      (pss_one (ps_ret pe_bl)))))), ?_⟩
  try dsimp only [cxOf, Cx.nox, Cx.wish, List.map]
  refine VW.body_up rh hv lv ?_
  obtain ⟨p, n, r, h, rm, hm, ds, do_, dn, rfl, st, hds, hdo, hdn, hl, hI, k1, k2, k3, k4⟩ := h
  have cl := T.cl_Store; have n1 := T.no_Store_own_most; have n2 := T.no_Store_own_rooms; have n3 := T.no_Store_own_heads
  have fm := sfD_most n r h; have fr := sfD_rooms n r h; have fh := sfD_heads n r h
  have a1 := st.ap; have a2 := st.ar; have a3 := st.ah
  have no : (sfD n r h).lookup ("look_at_slot" : Str) = none := sfD_no _ _ _ (by decide +kernel) (by decide +kernel) (by decide +kernel)
  have no2 : (sfD n r h).lookup ("look_at_room" : Str) = none := sfD_no _ _ _ (by decide +kernel) (by decide +kernel) (by decide +kernel)
  walk_at "v"
  refine ⟨fun c => ?_, k1⟩
  obtain ⟨i, v, rfl, i0, gv⟩ := inI_int c
  obtain rfl := py_int hds
  walk_at "v"
  refine ⟨fun c2 => ?_, k2 c⟩
  walk_at "v"
  have gv' := gv
  cases co : numD do_ with
  | false =>
    have e : isI v do_ = false := by
      cases do_ with
      | int j =>
        have h : decide (0 ≤ j) = false := co
        show (decide (0 ≤ j) && _) = false
        rw [h, Bool.false_and]
      | _ => rfl
    walk_at "v"
    exact k3 i v rfl gv c c2 e
  | true =>
    obtain ⟨j, rfl, j0⟩ := num_int co
    obtain rfl := py_int hdo
    obtain ⟨m, rfl⟩ := hI i v gv
    have e : isI (.int m) (.int j) = decide (m = j) := by
      show (decide (0 ≤ j) && _) = _
      rw [decide_eq_true j0, Bool.true_and]
    have o1 := okP_int S m; have o2 := okP_int S j
    walk_at "v"
    rw [eqP_int]
    cases c3 : decide (m = j) with
    | true =>
      walk_at "v"
      have hs := sizeL (n := hm.length) (by omega)
      walk_at "v"
      exact k4 i _ rfl gv c c2 (e.trans c3)
    | false =>
      walk_at "v"
      exact k3 i _ rfl gv c c2 (e.trans c3)

/-! ### data that are small: how long their text is, at most -/
abbrev IB (i : Int) : Prop := -1000000000000000000000000000000000000 < i ∧ i < 1000000000000000000000000000000000000
structure Sm (n k : Nat) (d : PyData) : Prop where
  ls : d.leavesShort 40 = true
  sh : d.showable = true
  wt : d.weight ≤ n
  dp : d.depth ≤ k
  cl : d.canLay0 = true
structure SmAll (n k : Nat) (ds : List PyData) : Prop where
  ls : PyData.leavesShortAll 40 ds = true
  sh : PyData.showableAll ds = true
  wt : PyData.weightAll ds ≤ n
  dp : PyData.depthAll ds ≤ k
  cl : PyData.canLayAll0 ds = true
theorem ib_nat {i : Int} (h : IB i) : i.natAbs < 10 ^ 36 := by
  have e : (10 : Nat) ^ 36 = 1000000000000000000000000000000000000 := by decide
  rw [e]
  obtain ⟨h1, h2⟩ := h
  omega
theorem ib_log {i : Int} (h : IB i) : i.natAbs.log2 < 120 := by
  have h1 : i.natAbs < 2 ^ 120 := Nat.lt_of_lt_of_le (ib_nat h) (by decide)
  by_cases c : i.natAbs = 0
  · rw [c]; decide
  · exact (Nat.log2_lt c).mpr h1
theorem Sm.int {i : Int} (h : IB i) : Sm 120 0 (.int i) := by
  refine ⟨?_, ?_, ?_, ?_, rfl⟩
  · have e : (PyData.shown (.int i)).length ≤ 40 := by
      rw [PyData.shown_int, ofString_length]
      exact Nat.le_trans (int_text_length_le10 (k := 36) (by decide) (ib_nat h)) (by decide)
    simpa only [PyData.leavesShort, decide_eq_true_eq] using e
  · simp only [PyData.showable, decide_eq_true_eq]
    have := ib_log h
    omega
  · simp only [PyData.weight]
    have := ib_log h
    split <;> omega
  · simp only [PyData.depth]; exact Nat.le_refl _
theorem Sm.non : Sm 0 0 .none := by
  refine ⟨?_, ?_, ?_, ?_, rfl⟩ <;> simp [PyData.leavesShort, PyData.showable, PyData.weight, PyData.depth]
theorem Sm.str {z : Str} (h : (PyData.str z).leavesShort 40 = true) (hs : (PyData.str z).canLay0 = true := by first | assumption | (rw [PyData.canLay0]; decide +kernel)) : Sm z.cps.size 0 (.str z) :=
  ⟨h, by simp only [PyData.showable], by simp only [PyData.weight]; exact Nat.le_refl _, by simp only [PyData.depth]; exact Nat.le_refl _, hs⟩
theorem SmAll.nil : SmAll 0 0 [] := by
  refine ⟨?_, ?_, ?_, ?_, rfl⟩ <;> simp [PyData.leavesShortAll, PyData.showableAll, PyData.weightAll, PyData.depthAll]
theorem Sm.mono {n k n' k' : Nat} {d : PyData} (h : Sm n k d) (hn : n ≤ n') (hk : k ≤ k') : Sm n' k' d := ⟨h.ls, h.sh, Nat.le_trans h.wt hn, Nat.le_trans h.dp hk, h.cl⟩
theorem SmAll.mono {n k n' k' : Nat} {d : List PyData} (h : SmAll n k d) (hn : n ≤ n') (hk : k ≤ k') : SmAll n' k' d := ⟨h.ls, h.sh, Nat.le_trans h.wt hn, Nat.le_trans h.dp hk, h.cl⟩
theorem SmAll.cons {a b k : Nat} {d : PyData} {r : List PyData} (h : Sm a k d) (t : SmAll b k r) : SmAll (a + 1 + b) k (d :: r) := by
  refine ⟨?_, ?_, ?_, ?_, by rw [PyData.canLayAll0, h.cl, t.cl]; rfl⟩
  · simp only [PyData.leavesShortAll, h.ls, t.ls, Bool.and_self]
  · simp only [PyData.showableAll, h.sh, t.sh, Bool.and_self]
  · have h1 := h.wt; have h2 := t.wt; simp only [PyData.weightAll]; omega
  · have h1 := h.dp; have h2 := t.dp; simp only [PyData.depthAll]; omega
theorem Sm.tup {n k : Nat} {ds : List PyData} (h : SmAll n k ds) : Sm n (k + 1) (.tuple ds) := by
  refine ⟨?_, ?_, ?_, ?_, by rw [PyData.canLay0]; exact h.cl⟩
  · simp only [PyData.leavesShort]; exact h.ls
  · simp only [PyData.showable]; exact h.sh
  · simp only [PyData.weight]; exact h.wt
  · have := h.dp; simp only [PyData.depth]; omega
theorem SmAll.of {n k : Nat} : ∀ {ds : List PyData}, (∀ d ∈ ds, Sm n k d) → SmAll ((n + 1) * ds.length) k ds
  | [], _ => SmAll.nil.mono (Nat.zero_le _) (Nat.zero_le _)
  | d :: r, h => by
    have t := SmAll.of (ds := r) fun e he => h e (List.mem_cons_of_mem _ he)
    refine (SmAll.cons (h d List.mem_cons_self) t).mono ?_ (Nat.le_refl _)
    rw [List.length_cons, Nat.mul_add, Nat.mul_one]
    omega
/-- a record that is drawn -/
abbrev SmR (d : PyData) : Prop := Sm 4000 4 d
def RowSm (d : PyData) : Prop := ∃ k v : Int, d = .tuple [.int k, .int v] ∧ IB k ∧ IB v
theorem RowSm.sm {d : PyData} (h : RowSm d) : Sm 300 1 d := by
  obtain ⟨k, v, rfl, h1, h2⟩ := h
  exact (Sm.tup (.cons (.int h1) (.cons (.int h2) .nil))).mono (by decide) (Nat.le_refl _)
theorem rows_sm {ds : List PyData} (hl : ds.length ≤ 9) (h : ∀ d ∈ ds, RowSm d) : Sm 2800 2 (.tuple ds) := by
  refine (Sm.tup (SmAll.of fun d hd => (h d hd).sm)).mono ?_ (Nat.le_refl _)
  have : (300 + 1) * ds.length ≤ (300 + 1) * 9 := Nat.mul_le_mul_left _ hl
  omega
def drawWords : List Str := ["leaf", "bough", "moved", "put", "take", "part", "entry", "less", "gone", "join", "joining", "lowering"]
theorem word_sm {z : Str} (h : z ∈ drawWords) : Sm 20 0 (.str z) := by
  have e : z = "leaf" ∨ z = "bough" ∨ z = "moved" ∨ z = "put" ∨ z = "take" ∨ z = "part" ∨ z = "entry" ∨ z = "less" ∨ z = "gone" ∨ z = "join" ∨ z = "joining" ∨ z = "lowering" := by simpa [drawWords] using h
  rcases e with rfl | rfl | rfl | rfl | rfl | rfl | rfl | rfl | rfl | rfl | rfl | rfl <;>
    exact (Sm.str (by simp only [PyData.leavesShort]; decide +kernel)).mono (by decide +kernel) (Nat.le_refl _)
theorem form_sm {z : Str} {ns : List Int} (hz : z ∈ drawWords) (hl : ns.length ≤ 4) (h : ∀ n ∈ ns, IB n) : SmR (.tuple (.str z :: ns.map .int)) := by
  have t : SmAll ((120 + 1) * (ns.map PyData.int).length) 0 (ns.map PyData.int) := SmAll.of fun d hd => by
    obtain ⟨n, hn, rfl⟩ := List.mem_map.mp hd
    exact .int (h n hn)
  refine (Sm.tup (SmAll.cons (word_sm hz) t)).mono ?_ (by decide)
  rw [List.length_map]
  have : (120 + 1) * ns.length ≤ (120 + 1) * 4 := Nat.mul_le_mul_left _ hl
  omega
/-- none, or a number -/
def OptI (d : PyData) : Prop := d = .none ∨ ∃ i, d = .int i ∧ IB i
theorem OptI.sm {d : PyData} (h : OptI d) : Sm 120 0 d := by
  rcases h with rfl | ⟨i, rfl, h⟩
  · exact Sm.non.mono (by decide) (Nat.le_refl _)
  · exact .int h
theorem leaf_sm {lo : Int} {hi ri : PyData} {ds : List PyData} (h0 : IB lo) (h1 : OptI hi) (h2 : OptI ri) (hl : ds.length ≤ 9) (h : ∀ d ∈ ds, RowSm d) : SmR (.tuple [.str "leaf", .int lo, hi, ri, .tuple ds]) :=
  (Sm.tup (.cons ((word_sm (by simp [drawWords])).mono (Nat.le_refl _) (by decide)) (.cons ((Sm.int h0).mono (Nat.le_refl _) (by decide)) (.cons (h1.sm.mono (Nat.le_refl _) (by decide)) (.cons (h2.sm.mono (Nat.le_refl _) (by decide)) (.cons ((rows_sm hl h).mono (Nat.le_refl _) (by decide : 2 ≤ 3)) (SmAll.nil.mono (Nat.le_refl _) (by decide)))))))).mono (by decide) (by decide)
theorem bough_sm {lv lo : Int} {hi ri : PyData} {ds : List PyData} (h9 : IB lv) (h0 : IB lo) (h1 : OptI hi) (h2 : OptI ri) (hl : ds.length ≤ 9) (h : ∀ d ∈ ds, RowSm d) : SmR (.tuple [.str "bough", .int lv, .int lo, hi, ri, .tuple ds]) :=
  (Sm.tup (.cons ((word_sm (by simp [drawWords])).mono (Nat.le_refl _) (by decide)) (.cons ((Sm.int h9).mono (Nat.le_refl _) (by decide)) (.cons ((Sm.int h0).mono (Nat.le_refl _) (by decide)) (.cons (h1.sm.mono (Nat.le_refl _) (by decide)) (.cons (h2.sm.mono (Nat.le_refl _) (by decide)) (.cons ((rows_sm hl h).mono (Nat.le_refl _) (by decide : 2 ≤ 3)) (SmAll.nil.mono (Nat.le_refl _) (by decide))))))))).mono (by decide) (by decide)

/-! ### rows that are right -/
structure RowOk (lo : Int) (hi : PyData) (vp : Int → Bool) (d : PyData) : Prop where
  ex : ∃ k v : Int, d = .tuple [.int k, .int v] ∧ 0 ≤ k ∧ k ≤ 999999 ∧ lo ≤ k ∧ (∀ j, hi = .int j → k < j) ∧ vp v = true
theorem rises_of : ∀ {ks : List Int}, ks.Pairwise (· < ·) → rises ks = true
  | [], _ => rfl
  | [_], _ => rfl
  | a :: b :: r, h => by
    obtain ⟨h1, h2⟩ := List.pairwise_cons.mp h
    show (decide (a < b) && rises (b :: r)) = true
    rw [decide_eq_true (h1 b List.mem_cons_self), rises_of h2]; rfl
theorem outB_of {ks : List Int} {lo : Int} {hi : PyData} (h1 : ∀ k ∈ ks, lo ≤ k) (h2 : ∀ j, hi = .int j → ∀ k ∈ ks, k < j) : outB ks lo hi = false := by
  cases ks with
  | nil => rfl
  | cons a r =>
    obtain ⟨z, hz⟩ : ∃ z, (a :: r).getLast? = some z := ⟨_, List.getLast?_eq_some_getLast (List.cons_ne_nil _ _)⟩
    rw [outB_cons hz]
    have hm : z ∈ a :: r := List.mem_of_getLast? hz
    have e1 : decide (a < lo) = false := decide_eq_false (by have := h1 a List.mem_cons_self; omega)
    rw [e1, Bool.false_or]
    cases hi with
    | int j => exact decide_eq_false (by have := h2 j rfl z hm; omega)
    | _ => rfl
theorem rowsD_of {ds : List PyData} {lo : Int} {hi : PyData} {vp : Int → Bool} (hl : ds.length ≤ 400) (h : ∀ d ∈ ds, RowOk lo hi vp d) (hp : (ds.map keyOf).Pairwise (· < ·)) : rowsD (.tuple ds) lo hi = true := by
  show (decide (ds.length ≤ 400) && (ds.all rowD && (!outB (ds.map keyOf) lo hi && rises (ds.map keyOf)))) = true
  have h1 : ds.all rowD = true := List.all_eq_true.mpr fun d hd => by
    obtain ⟨k, v, rfl, a, b, _⟩ := (h d hd).ex
    show (decide (0 ≤ k) && decide (k ≤ 999999)) = true
    rw [decide_eq_true a, decide_eq_true b]; rfl
  have h2 : outB (ds.map keyOf) lo hi = false := outB_of (fun k hk => by
    obtain ⟨d, hd, rfl⟩ := List.mem_map.mp hk
    obtain ⟨k, v, rfl, _, _, c, _⟩ := (h d hd).ex
    exact c) (fun j e k hk => by
    obtain ⟨d, hd, rfl⟩ := List.mem_map.mp hk
    obtain ⟨k, v, rfl, _, _, _, c, _⟩ := (h d hd).ex
    exact c j e)
  rw [decide_eq_true hl, h1, h2, rises_of hp]; rfl
structure BndOk (lo : Int) (hi ri : PyData) : Prop where
  lo0 : 0 ≤ lo
  lo9 : lo ≤ 999999
  end_ : (hi = .none ∧ ri = .none) ∨ ∃ j b : Int, hi = .int j ∧ ri = .int b ∧ lo < j ∧ j ≤ 999999 ∧ 0 ≤ b ∧ IB b
theorem BndOk.sm {lo : Int} {hi ri : PyData} (h : BndOk lo hi ri) : IB lo ∧ OptI hi ∧ OptI ri := by
  have h0 := h.lo0
  have h9 := h.lo9
  refine ⟨⟨by omega, by omega⟩, ?_⟩
  rcases h.end_ with ⟨rfl, rfl⟩ | ⟨j, b, rfl, rfl, h1, h2, h3⟩
  · exact ⟨.inl rfl, .inl rfl⟩
  · exact ⟨.inr ⟨j, rfl, by omega, by omega⟩, .inr ⟨b, rfl, h3.2⟩⟩
theorem keyD_of {i : Int} (h0 : 0 ≤ i) (h1 : i ≤ 999999) : keyD (.int i) = true := by
  show (decide (0 ≤ i) && decide (i ≤ 999999)) = true
  rw [decide_eq_true h0, decide_eq_true h1]; rfl
theorem bounds_of {lo : Int} {hi ri : PyData} (h : BndOk lo hi ri) : boundsD (.int lo) hi ri = true := by
  unfold boundsD
  rw [keyD_of h.lo0 h.lo9, Bool.true_and]
  rcases h.end_ with ⟨rfl, rfl⟩ | ⟨j, b, rfl, rfl, h1, h2, h3⟩
  · rfl
  · show (keyD (.int j) && (decide (lo < j) && decide (0 ≤ b))) = true
    rw [keyD_of (by have := h.lo0; omega) h2, decide_eq_true h1, decide_eq_true h3.1]; rfl
theorem recD_leaf (ps : List PyData) : recD (.tuple (.str "leaf" :: ps)) = leafD (.str "leaf" :: ps) := by
  show (if ("leaf" : Str) = "leaf" then leafD (.str "leaf" :: ps) else if ("leaf" : Str) = "bough" then boughD (.str "leaf" :: ps) else formD "leaf" ps) = _
  rw [if_pos rfl]
theorem recD_bough (ps : List PyData) : recD (.tuple (.str "bough" :: ps)) = boughD (.str "bough" :: ps) := by
  have n : ¬ (("bough" : Str) = "leaf") := by decide +kernel
  show (if ("bough" : Str) = "leaf" then leafD (.str "bough" :: ps) else if ("bough" : Str) = "bough" then boughD (.str "bough" :: ps) else formD "bough" ps) = _
  rw [if_neg n, if_pos rfl]
theorem recD_form {z : Str} (h1 : z ≠ "leaf") (h2 : z ≠ "bough") (ps : List PyData) : recD (.tuple (.str z :: ps)) = formD z ps := by
  show (if z = "leaf" then leafD (.str z :: ps) else if z = "bough" then boughD (.str z :: ps) else formD z ps) = _
  rw [if_neg h1, if_neg h2]
theorem leaf_of {lo : Int} {hi ri : PyData} {ds : List PyData} (hb : BndOk lo hi ri) (hl : ds.length ≤ 400) (h : ∀ d ∈ ds, RowOk lo hi (fun _ => true) d) (hp : (ds.map keyOf).Pairwise (· < ·)) : recD (.tuple [.str "leaf", .int lo, hi, ri, .tuple ds]) = true := by
  rw [recD_leaf]
  show (boundsD (.int lo) hi ri && (rowsD (.tuple ds) lo hi && ds.all fun r => wholeD (valOf r))) = true
  have h1 : (ds.all fun r => wholeD (valOf r)) = true := List.all_eq_true.mpr fun d hd => by
    obtain ⟨k, v, rfl, _⟩ := (h d hd).ex
    rfl
  rw [bounds_of hb, rowsD_of hl h hp, h1]; rfl
theorem bough_of {lv lo : Int} {hi ri : PyData} {d0 : PyData} {ds : List PyData} (l1 : 1 ≤ lv) (l2 : lv ≤ 40) (hb : BndOk lo hi ri) (hl : (d0 :: ds).length ≤ 400) (h : ∀ d ∈ d0 :: ds, RowOk lo hi (fun v => decide (0 ≤ v)) d) (hp : ((d0 :: ds).map keyOf).Pairwise (· < ·)) (h0 : keyOf d0 = lo) :
    recD (.tuple [.str "bough", .int lv, .int lo, hi, ri, .tuple (d0 :: ds)]) = true := by
  rw [recD_bough]
  show (levD (.int lv) && (boundsD (.int lo) hi ri && (rowsD (.tuple (d0 :: ds)) lo hi && (decide (keyOf d0 = lo) && (d0 :: ds).all fun r => numD (valOf r))))) = true
  have h1 : ((d0 :: ds).all fun r => numD (valOf r)) = true := List.all_eq_true.mpr fun d hd => by
    obtain ⟨k, v, rfl, _, _, _, _, e⟩ := (h d hd).ex
    exact e
  have h2 : levD (.int lv) = true := by
    show (decide (1 ≤ lv) && decide (lv ≤ 40)) = true
    rw [decide_eq_true l1, decide_eq_true l2]; rfl
  rw [h2, bounds_of hb, rowsD_of hl h hp, h1, decide_eq_true h0]; rfl
theorem form_of {z : Str} {ks : List Kd} {ps : List PyData} (h1 : z ≠ "leaf") (h2 : z ≠ "bough") (h3 : lookF forms z = some ks) (h4 : ps.length = ks.length) (h5 : (fitD ks ps).all id = true) : recD (.tuple (.str z :: ps)) = true := by
  rw [recD_form h1 h2]
  unfold formD
  rw [h3]
  show (decide (ps.length = ks.length) && (fitD ks ps).all id) = true
  rw [decide_eq_true h4, h5]; rfl
structure KeysOk (f : Int) (ks : List Int) : Prop where
  ne : ks ≠ []
  pw : ks.Pairwise (· < ·)
  ge : ∀ k ∈ ks, f ≤ k
theorem KeysOk.last {f : Int} {ks : List Int} (h : KeysOk f ks) : ∃ r z, ks = r ++ [z] ∧ f ≤ z ∧ ∀ k ∈ ks, k ≤ z := by
  have e := List.dropLast_concat_getLast h.ne
  refine ⟨ks.dropLast, ks.getLast h.ne, e.symm, h.ge _ (List.getLast_mem h.ne), fun k hk => ?_⟩
  have pw := h.pw
  rw [← e] at pw hk
  obtain ⟨_, _, h3⟩ := List.pairwise_append.mp pw
  rcases List.mem_append.mp hk with hk | hk
  · have := h3 k hk _ (List.mem_singleton.mpr rfl)
    omega
  · rw [List.mem_singleton.mp hk]; exact Int.le_refl _
theorem KeysOk.push {f : Int} {ks : List Int} {z : Int} (h : KeysOk f ks) (hz : ∀ k ∈ ks, k < z) : KeysOk f (ks ++ [z]) := by
  obtain ⟨r, y, _, hy, hy2⟩ := h.last
  have hm : y ∈ ks := by
    obtain ⟨r', y', e, _⟩ := h.last
    have := List.getLast_mem h.ne
    simp_all
  refine ⟨by simp, List.pairwise_append.mpr ⟨h.pw, List.pairwise_singleton _ _, fun a ha b hb => by rw [List.mem_singleton.mp hb]; exact hz a ha⟩, fun k hk => ?_⟩
  rcases List.mem_append.mp hk with hk | hk
  · exact h.ge k hk
  · rw [List.mem_singleton.mp hk]
    have := hz y hm
    omega

/-! ### the drawing -/
def spPool : VW.SpD := fun ds S P _ => ∃ (ns : List Int) (k : Nat) (x : VW.D), ds = [x, .int k] ∧ VW.SeqL S x (ns.map VW.D.int) ∧ ns.length ≤ 63 ∧ k ≤ 63 ∧
  ∀ (p : Addr) (c s : Int), S p = none → 0 ≤ c → 0 ≤ s → s < 2147483648 → P (.ref p) (VW.sup S p (.lst [.int c, .int s]))
def spTake : VW.SpD := fun ds S P _ => ∃ (q : Addr) (m : Int), ds = [.ref q, .int m] ∧ VW.PoolS S q ∧ 0 < m ∧ m < 1073741824 ∧ ∀ (r : Int) (S' : VW.Sto), 0 ≤ r → r < m → VW.Drawn S q S' → P (.int r) S'
theorem atI_map {ns : List Int} {k : Nat} (h : k < ns.length) : atI (ns.map VW.D.int) (k : Int) = some (.int (ns[k])) := atI_nat (by rw [List.getElem?_map, List.getElem?_eq_getElem h]; rfl)
theorem ok_pool (T : Txt w K mg A) : FnOk P w K mg base CX0 1 A.a_pool A.d_pool ["_law_script", "_law_k"] (VW.upSp K spPool) := by
  refine T.F_pool.ok sc_pool (VW.upSp.len fun ds S P PE h => by obtain ⟨_, _, _, rfl, _⟩ := h; rfl) (fun cdv A' outer s H vs Q E hr h => ?_)
  obtain ⟨F, S, ds, P', PE, rh, hv, ⟨ns, k, x, rfl, hS, hl, hk, q⟩, lv, lx⟩ := h
  haveI : VW.XLe K F E PE := ⟨lx⟩
  refine ⟨_, (pss_cons (ps_set (i := 2) sc_pool.nd rfl (Or.inl rfl) pe_int)
      (VW.cutAt (ps_if (pt_cmpR op_lt (pv 1) (pe_callB VW.call_lenA (by rfl) T.n_len PySem.boot_len (pa_cons (pv 0) pa_nil)) (nomark _))
      (pss_one (ps_set (i := 2) sc_pool.nd rfl (Or.inl rfl) (pe_ix ix_list (pv 0) (pv 1) (fun _ _ => rfl))))
      pss_nil)
      (pss_cons (ps_set (i := 3) sc_pool.nd rfl (Or.inl rfl) (pe_op op_mod (pe_op op_mul (pe_op op_add (pe_op op_add (pe_op op_mod (pv 2) pe_int) (pe_op op_mul (pe_op op_mul pe_int (pv 1)) (pv 1))) pe_int) pe_int) pe_int))
      (VW.cutAt (ps_if (pt_cmpR op_lt (pv 2) (pe_op op_pow pe_int pe_int) (nomark _))
      (pss_one (ps_set (i := 2) sc_pool.nd rfl (Or.inl rfl) pe_int))
      pss_nil)
      (pss_one (ps_ret (pe_lst (pa_cons (pv 2) (pa_cons (pe_op op_add (pe_op op_mod (pe_op op_mul (pv 3) (pv 3)) pe_int) pe_int) pa_nil))))))))), ?_⟩
  dsimp only [cxOf, Cx.nox, Cx.wish]
  refine VW.body_up rh hv lv ?_
  have ek : (7919 : Int) * k < 1000000 := by omega
  walk_at "v"
  refine ⟨fun env S' => ∃ c : Int, env = [some x, some (.int k), some (.int c), none] ∧ S' = S, ?_, ?_⟩
  · walk_at "v"
    refine ite2 (fun c => ?_) (fun c => ?_)
    · have c : (k : Int) < (ns.map VW.D.int).length := of_decide_eq_true c
      rw [List.length_map] at c
      have hx := atI_map (ns := ns) (k := k) (by omega)
      walk_at "v"
      rfl
    · walk_at "v"
      rfl
  · rintro env S' ⟨c, rfl, rfl⟩
    walk_at "v"
    show VW.dCut _ _ _ [some x, some (.int k), some (.int c), some (.int ((c % 2147483629 + 7919 * (k : Int) * k + 11) * 48271 % 2147483647))] S'
    generalize hs : (c % 2147483629 + 7919 * (k : Int) * k + 11) * 48271 % 2147483647 = sd
    have h0 : 0 ≤ sd ∧ sd < 2147483647 := by omega
    refine ⟨fun env S'' => ∃ c' : Int, env = [some x, some (.int k), some (.int c'), some (.int sd)] ∧ S'' = S' ∧ 0 ≤ c', ?_, ?_⟩
    · walk_at "v"
      refine ite2 (fun c => ?_) (fun c => ?_)
      · walk_at "v"
        exact Int.le_refl _
      · walk_at "v"
        have c := of_decide_eq_false (Bool.eq_false_iff.mpr c)
        have e : (10 : Int) ^ (18 : Int).toNat = 1000000000000000000 := by decide
        omega
    · rintro env S'' ⟨c', rfl, rfl, c0⟩
      walk_at "v"
      exact fun p hp => q p c' (sd * sd % 2147483587 + 1) hp c0 (by omega) (by omega)
theorem ok_take (T : Txt w K mg A) : FnOk P w K mg base CX0 1 A.a_take A.d_take ["_law_pool_here", "_law_many"] (VW.upSp K spTake) := by
  refine T.F_take.ok sc_take (VW.upSp.len fun ds S P PE h => by obtain ⟨_, _, rfl, _⟩ := h; rfl) (fun cdv A' outer s H vs Q E hr h => ?_)
  obtain ⟨F, S, ds, P', PE, rh, hv, ⟨q, m, rfl, ⟨c, s0, hq, h1, h2, h3⟩, m0, m1, k⟩, lv, lx⟩ := h
  haveI : VW.XLe K F E PE := ⟨lx⟩
  refine ⟨_, (pss_cons (ps_if (pt_cmpR op_gt (pe_ix ix_list (pv 0) pe_int (fun _ _ => rfl)) pe_int (nomark _))
      (pss_cons (ps_set (i := 2) sc_take.nd rfl (Or.inl rfl) (pe_op op_mod (pe_ix ix_list (pv 0) pe_int (fun _ _ => rfl)) (pv 1)))
      (pss_cons (ps_asg (pe_op op_fdiv (pe_ix ix_list (pv 0) pe_int (fun _ _ => rfl)) (pv 1)) (pg_sub (pv 0) pe_int set_list))
      (pss_one (ps_ret (pv 2)))))
      pss_nil)
      (pss_cons (ps_asg (pe_op op_mod (pe_op op_add (pe_op op_mul (pe_ix ix_list (pv 0) pe_int (fun _ _ => rfl)) pe_int) pe_int) pe_int) (pg_sub (pv 0) pe_int set_list))
      (pss_one (ps_ret (pe_op op_mod (pe_op op_fdiv (pe_op op_mod (pe_op op_mul (pe_ix ix_list (pv 0) pe_int (fun _ _ => rfl)) (pe_ix ix_list (pv 0) pe_int (fun _ _ => rfl))) pe_int) pe_int) (pv 1)))))), ?_⟩
  dsimp only [cxOf, Cx.nox, Cx.wish]
  refine VW.body_up rh hv lv ?_
  have z0 : atI [VW.D.int c, .int s0] 0 = some (.int c) := atI_nat (j := 0) rfl
  have z1 : ∀ a, atI [a, VW.D.int s0] 1 = some (.int s0) := fun a => atI_nat (j := 1) rfl
  have z2 : ∀ a, atI [a, VW.D.int ((s0 * 48271 + 12345) % 2147483647)] 1 = some (.int ((s0 * 48271 + 12345) % 2147483647)) := fun a => atI_nat (j := 1) rfl
  walk_at "v"
  refine ite2 (fun cp => ?_) (fun cp => ?_)
  · have cp : 0 < c := of_decide_eq_true cp
    walk_at "v"
    exact k (c % m) _ (Int.emod_nonneg _ (by omega)) (Int.emod_lt_of_pos _ m0) ⟨c / m, s0, rfl, Int.ediv_nonneg h1 (by omega), h2, h3⟩
  · walk_at "v"
    have z : ∀ r : Int, 0 ≤ r → r < m → P' (.int r) (VW.sup S q (.lst [.int c, .int ((s0 * 48271 + 12345) % 2147483647)])) := fun r r0 r1 => k r _ r0 r1 ⟨c, _, rfl, h1, Int.emod_nonneg _ (by decide), by omega⟩
    exact z _ (Int.emod_nonneg _ (by omega)) (Int.emod_lt_of_pos _ m0)

/-! ### what is drawn: keys, numbers, values, records -/
def spDraws (p : Int → Prop) : VW.SpD := fun ds S P _ => ∃ q : Addr, ds = [.ref q] ∧ VW.PoolS S q ∧ ∀ (r : Int) (S' : VW.Sto), p r → VW.Drawn S q S' → P (.int r) S'
abbrev isKeyI (r : Int) : Prop := 0 ≤ r ∧ r ≤ 999999
abbrev isNumI (r : Int) : Prop := 0 ≤ r ∧ IB r
theorem ok_key (T : Txt w K mg A) : FnOk P w K mg base CX0 2 A.a_key A.d_key ["_law_pool_here"] (VW.upSp K (spDraws isKeyI)) := by
  refine T.F_key.ok sc_key (VW.upSp.len fun ds S P PE h => by obtain ⟨_, rfl, _⟩ := h; rfl) (fun cdv A' outer s H vs Q E hr h => ?_)
  obtain ⟨F, S, ds, P', PE, rh, hv, ⟨q, rfl, hq, k⟩, lv, lx⟩ := h
  haveI : VW.XLe K F E PE := ⟨lx⟩
  refine ⟨_, (pss_one (ps_ret (pe_ix ix_list (VW.pe_kp (pe_lst (pa_cons (pe_call (ok_take T) (hr.mono (by decide)) rfl T.m_take T.F_take.kp T.b_take .nil VW.pass0F (pa_cons (pv 0) (pa_cons pe_int pa_nil))) (pa_cons (pe_call (ok_take T) (hr.mono (by decide)) rfl T.m_take T.F_take.kp T.b_take .nil VW.pass0F (pa_cons (pv 0) (pa_cons pe_int pa_nil))) (pa_cons (pe_op op_sub pe_int (pe_call (ok_take T) (hr.mono (by decide)) rfl T.m_take T.F_take.kp T.b_take .nil VW.pass0F (pa_cons (pv 0) (pa_cons pe_int pa_nil)))) (pa_cons pe_int pa_nil)))))) (pe_call (ok_take T) (hr.mono (by decide)) rfl T.m_take T.F_take.kp T.b_take .nil VW.pass0F (pa_cons (pv 0) (pa_cons pe_int pa_nil))) (fun _ _ => rfl)))), ?_⟩
  dsimp only [cxOf, Cx.nox, Cx.wish]
  refine VW.body_up rh hv lv ?_
  walk_at "v"
  intro r1 S1 r10 r11 d1
  have hq1 := d1.pool
  walk_at "v"
  intro r2 S2 r20 r21 d2
  have hq2 := d2.pool
  walk_at "v"
  intro r3 S3 r30 r31 d3
  have hq3 := d3.pool
  walk_at "v"
  intro r4 S4 r40 r41 d4
  have k' := fun r (h : isKeyI r) => k r S4 h (((d1.trans d2).trans d3).trans d4)
  have c : r4 = 0 ∨ r4 = 1 ∨ r4 = 2 ∨ r4 = 3 := by omega
  rcases c with rfl | rfl | rfl | rfl
  · have a0 : atI [VW.D.int r1, .int r2, .int (999999 - r3), .int 0] 0 = some (.int r1) := atI_nat (j := 0) rfl
    walk_at "v"
    exact k' _ ⟨by omega, by omega⟩
  · have a0 : atI [VW.D.int r1, .int r2, .int (999999 - r3), .int 0] 1 = some (.int r2) := atI_nat (j := 1) rfl
    walk_at "v"
    exact k' _ ⟨by omega, by omega⟩
  · have a0 : atI [VW.D.int r1, .int r2, .int (999999 - r3), .int 0] 2 = some (.int (999999 - r3)) := atI_nat (j := 2) rfl
    walk_at "v"
    exact k' _ ⟨by omega, by omega⟩
  · have a0 : atI [VW.D.int r1, .int r2, .int (999999 - r3), .int 0] 3 = some (.int 0) := atI_nat (j := 3) rfl
    walk_at "v"
    exact k' _ ⟨by omega, by omega⟩
theorem ok_number (T : Txt w K mg A) : FnOk P w K mg base CX0 2 A.a_number A.d_number ["_law_pool_here"] (VW.upSp K (spDraws isNumI)) := by
  refine T.F_number.ok sc_number (VW.upSp.len fun ds S P PE h => by obtain ⟨_, rfl, _⟩ := h; rfl) (fun cdv A' outer s H vs Q E hr h => ?_)
  obtain ⟨F, S, ds, P', PE, rh, hv, ⟨q, rfl, hq, k⟩, lv, lx⟩ := h
  haveI : VW.XLe K F E PE := ⟨lx⟩
  refine ⟨_, (pss_one (ps_ret (pe_ix ix_list (VW.pe_kp (pe_lst (pa_cons (pe_call (ok_take T) (hr.mono (by decide)) rfl T.m_take T.F_take.kp T.b_take .nil VW.pass0F (pa_cons (pv 0) (pa_cons pe_int pa_nil))) (pa_cons (pe_call (ok_take T) (hr.mono (by decide)) rfl T.m_take T.F_take.kp T.b_take .nil VW.pass0F (pa_cons (pv 0) (pa_cons pe_int pa_nil))) (pa_cons (pe_op op_add (pe_op op_pow pe_int pe_int) (pe_call (ok_take T) (hr.mono (by decide)) rfl T.m_take T.F_take.kp T.b_take .nil VW.pass0F (pa_cons (pv 0) (pa_cons pe_int pa_nil)))) pa_nil))))) (pe_call (ok_take T) (hr.mono (by decide)) rfl T.m_take T.F_take.kp T.b_take .nil VW.pass0F (pa_cons (pv 0) (pa_cons pe_int pa_nil))) (fun _ _ => rfl)))), ?_⟩
  dsimp only [cxOf, Cx.nox, Cx.wish]
  refine VW.body_up rh hv lv ?_
  have e20 : (0 : Int) ≤ (10 : Int) ^ (20 : Int).toNat ∧ (10 : Int) ^ (20 : Int).toNat ≤ 1000000000000000000000 := by decide
  walk_at "v"
  intro r1 S1 r10 r11 d1
  have hq1 := d1.pool
  walk_at "v"
  intro r2 S2 r20 r21 d2
  have hq2 := d2.pool
  walk_at "v"
  intro r3 S3 r30 r31 d3
  have hq3 := d3.pool
  walk_at "v"
  intro r4 S4 r40 r41 d4
  have k' := fun r (h : isNumI r) => k r S4 h (((d1.trans d2).trans d3).trans d4)
  have c : r4 = 0 ∨ r4 = 1 ∨ r4 = 2 := by omega
  rcases c with rfl | rfl | rfl
  · have a0 : ∀ x, atI [VW.D.int r1, .int r2, x] 0 = some (.int r1) := fun _ => atI_nat (j := 0) rfl
    walk_at "v"
    exact k' _ ⟨by omega, by omega, by omega⟩
  · have a0 : ∀ x, atI [VW.D.int r1, .int r2, x] 1 = some (.int r2) := fun _ => atI_nat (j := 1) rfl
    walk_at "v"
    exact k' _ ⟨by omega, by omega, by omega⟩
  · have a0 : ∀ x, atI [VW.D.int r1, .int r2, x] 2 = some x := fun _ => atI_nat (j := 2) rfl
    walk_at "v"
    exact k' _ ⟨by omega, by omega, by omega⟩
theorem ok_value (T : Txt w K mg A) : FnOk P w K mg base CX0 2 A.a_value A.d_value ["_law_pool_here"] (VW.upSp K (spDraws IB)) := by
  refine T.F_value.ok sc_value (VW.upSp.len fun ds S P PE h => by obtain ⟨_, rfl, _⟩ := h; rfl) (fun cdv A' outer s H vs Q E hr h => ?_)
  obtain ⟨F, S, ds, P', PE, rh, hv, ⟨q, rfl, hq, k⟩, lv, lx⟩ := h
  haveI : VW.XLe K F E PE := ⟨lx⟩
  refine ⟨_, (pss_one (ps_ret (pe_ix ix_list (VW.pe_kp (pe_lst (pa_cons (pe_op op_sub (pe_call (ok_take T) (hr.mono (by decide)) rfl T.m_take T.F_take.kp T.b_take .nil VW.pass0F (pa_cons (pv 0) (pa_cons pe_int pa_nil))) pe_int) (pa_cons (pe_call (ok_take T) (hr.mono (by decide)) rfl T.m_take T.F_take.kp T.b_take .nil VW.pass0F (pa_cons (pv 0) (pa_cons (pe_op op_pow pe_int pe_int) pa_nil))) (pa_cons (pe_op op_add (pe_op op_sub pe_int (pe_op op_pow pe_int pe_int)) (pe_call (ok_take T) (hr.mono (by decide)) rfl T.m_take T.F_take.kp T.b_take .nil VW.pass0F (pa_cons (pv 0) (pa_cons pe_int pa_nil)))) pa_nil))))) (pe_call (ok_take T) (hr.mono (by decide)) rfl T.m_take T.F_take.kp T.b_take .nil VW.pass0F (pa_cons (pv 0) (pa_cons pe_int pa_nil))) (fun _ _ => rfl)))), ?_⟩
  dsimp only [cxOf, Cx.nox, Cx.wish]
  refine VW.body_up rh hv lv ?_
  have e30 : (0 : Int) ≤ (10 : Int) ^ (30 : Int).toNat ∧ (10 : Int) ^ (30 : Int).toNat ≤ 10000000000000000000000000000000 := by decide
  have e6 : (10 : Int) ^ (6 : Int).toNat = 1000000 := by decide
  walk_at "v"
  intro r1 S1 r10 r11 d1
  have hq1 := d1.pool
  walk_at "v"
  intro r2 S2 r20 r21 d2
  have hq2 := d2.pool
  walk_at "v"
  intro r3 S3 r30 r31 d3
  have hq3 := d3.pool
  walk_at "v"
  intro r4 S4 r40 r41 d4
  have k' := fun r (h : IB r) => k r S4 h (((d1.trans d2).trans d3).trans d4)
  have c : r4 = 0 ∨ r4 = 1 ∨ r4 = 2 := by omega
  rcases c with rfl | rfl | rfl
  · have a0 : ∀ x y z, atI [x, y, z] 0 = some (x : VW.D) := fun _ _ _ => atI_nat (j := 0) rfl
    walk_at "v"
    exact k' _ ⟨by omega, by omega⟩
  · have a0 : ∀ x y z, atI [x, y, z] 1 = some (y : VW.D) := fun _ _ _ => atI_nat (j := 1) rfl
    walk_at "v"
    exact k' _ ⟨by omega, by omega⟩
  · have a0 : ∀ x y z, atI [x, y, z] 2 = some (z : VW.D) := fun _ _ _ => atI_nat (j := 2) rfl
    walk_at "v"
    exact k' _ ⟨by omega, by omega⟩

/-! ### drawn bases, drawn records -/
def rowI (p : Int × Int) : VW.D := .tup [.int p.1, .int p.2]
def rowP (p : Int × Int) : PyData := .tuple [.int p.1, .int p.2]
theorem py_rowI (p : Int × Int) : VW.py (rowI p) = some (rowP p) := by simp [rowI, rowP, VW.py, VW.pyAll]
theorem py_rows : ∀ kvs : List (Int × Int), VW.pyAll (kvs.map rowI) = some (kvs.map rowP)
  | [] => by simp [VW.pyAll]
  | p :: r => by rw [List.map_cons, VW.pyAll, py_rowI, py_rows r]; rfl
def spBase : VW.SpD := fun ds S P _ => ∃ (q : Addr) (z : Str), ds = [.ref q, .str z] ∧ (z = "leaf" ∨ z = "bough") ∧ VW.PoolS S q ∧ ∀ (d : List VW.D) (p : List PyData) (S' : VW.Sto), VW.Drawn S q S' → VW.pyAll d = some p → recD (.tuple p) = true → SmR (.tuple p) → P (.tup d) S'
theorem atI_lastD {α : Type} (xs : List α) (x : α) : atI (xs ++ [x]) (-1) = some x := by
  unfold atI ixN
  have : ¬ (0 : Int) ≤ -1 := by decide
  rw [if_neg this, List.length_append]
  have h2 : -(((xs.length + 1 : Nat)) : Int) ≤ -1 := by omega
  have h3 : (-1 + ((xs.length + 1 : Nat) : Int)).toNat = xs.length := by omega
  show (if -(((xs.length + 1 : Nat)) : Int) ≤ -1 then some ((-1 + ((xs.length + 1 : Nat) : Int)).toNat) else none).bind _ = _
  rw [if_pos h2, h3]
  simp
theorem cutD_take {xs : List VW.D} (n : Nat) : VW.cutD xs none (some (n : Int)) = xs.take n := by
  unfold VW.cutD
  rw [HT.sIx_none, HT.sIx_nat]
  show (xs.drop 0).take (min n xs.length - 0) = _
  rw [List.drop_zero, Nat.sub_zero]
  by_cases h : n ≤ xs.length
  · rw [Nat.min_eq_left h]
  · rw [Nat.min_eq_right (by omega), List.take_length, List.take_of_length_le (by omega)]
theorem ok_drawn_base (T : Txt w K mg A) : FnOk P w K mg base CX0 3 A.a_drawn_base A.d_drawn_base ["_law_pool_here", "_law_word"] (VW.upSp K spBase) := by
  refine T.F_drawn_base.ok sc_drawn_base (VW.upSp.len fun ds S P PE h => by obtain ⟨_, _, rfl, _⟩ := h; rfl) (fun cdv A' outer s H vs Q E hr h => ?_)
  obtain ⟨F, S, ds, P', PE, rh, hv, ⟨q, z, rfl, hz, hq, k⟩, lv, lx⟩ := h
  haveI : VW.XLe K F E PE := ⟨lx⟩
  refine ⟨_, (VW.cutAt (ps_set (i := 2) sc_drawn_base.nd rfl (Or.inr rfl) (pe_ix ix_list (VW.pe_kp (pe_lst (pa_cons pe_int (pa_cons (pe_call (ok_take T) (hr.mono (by decide)) rfl T.m_take T.F_take.kp T.b_take .nil VW.pass0F (pa_cons (pv 0) (pa_cons pe_int pa_nil))) (pa_cons (pe_call (ok_key T) (hr.mono (by decide)) rfl T.m_key T.F_key.kp T.b_key .nil VW.pass0F (pa_cons (pv 0) pa_nil)) pa_nil))))) (pe_call (ok_take T) (hr.mono (by decide)) rfl T.m_take T.F_take.kp T.b_take .nil VW.pass0F (pa_cons (pv 0) (pa_cons pe_int pa_nil))) (fun _ _ => rfl)))
      (pss_cons (ps_set (i := 3) sc_drawn_base.nd rfl (Or.inl rfl) (pe_lst (pa_cons (pe_op op_add (pv 2) (pe_call (ok_take T) (hr.mono (by decide)) rfl T.m_take T.F_take.kp T.b_take .nil VW.pass0F (pa_cons (pv 0) (pa_cons pe_int pa_nil)))) pa_nil)))
      (VW.cutAt (ps_for PassesOwn.never rfl (pi_range1 rfl T.n_range (pa_cons (pe_call (ok_take T) (hr.mono (by decide)) rfl T.m_take T.F_take.kp T.b_take .nil VW.pass0F (pa_cons (pv 0) (pa_cons pe_int pa_nil))) pa_nil)) (pg_name (i := 4) sc_drawn_base.nd rfl (Or.inl rfl))
      (pss_one (ps_expr (pe_bm PySem.F.plainAttrs_list PySem.F.slot_list_append PySem.F.type_list_append mt_append (pv 3) (pa_cons (pe_op op_add (pe_op op_add (pe_ix ix_list (pv 3) (pe_un un_neg pe_int) (fun _ _ => rfl)) pe_int) (pe_call (ok_take T) (hr.mono (by decide)) rfl T.m_take T.F_take.kp T.b_take .nil VW.pass0F (pa_cons (pv 0) (pa_cons pe_int pa_nil)))) pa_nil)))))
      (pss_cons (ps_set (i := 5) sc_drawn_base.nd rfl (Or.inl rfl) pe_non)
      (pss_cons (ps_set (i := 6) sc_drawn_base.nd rfl (Or.inl rfl) pe_non)
      (VW.cutAt (ps_if (PW.pt (pw_and (pt_cmpR op_gt (pe_call (ok_take T) (hr.mono (by decide)) rfl T.m_take T.F_take.kp T.b_take .nil VW.pass0F (pa_cons (pv 0) (pa_cons pe_int pa_nil))) pe_int (nomark _)) (pw_and1 (pt_cmpR op_lt (pe_ix ix_list (pv 3) (pe_un un_neg pe_int) (fun _ _ => rfl)) pe_int (nomark _)))))
      (pss_cons (ps_set (i := 5) sc_drawn_base.nd rfl (Or.inl rfl) (pe_op op_add (pe_op op_add (pe_ix ix_list (pv 3) (pe_un un_neg pe_int) (fun _ _ => rfl)) pe_int) (pe_op op_mul (pe_call (ok_take T) (hr.mono (by decide)) rfl T.m_take T.F_take.kp T.b_take .nil VW.pass0F (pa_cons (pv 0) (pa_cons pe_int pa_nil))) (pe_op op_sub pe_int (pe_ix ix_list (pv 3) (pe_un un_neg pe_int) (fun _ _ => rfl))))))
      (pss_one (ps_set (i := 6) sc_drawn_base.nd rfl (Or.inl rfl) (pe_call (ok_number T) (hr.mono (by decide)) rfl T.m_number T.F_number.kp T.b_number .nil VW.pass0F (pa_cons (pv 0) pa_nil)))))
      pss_nil)
      (VW.cutAt (ps_if (pt_cmpR op_eq (pv 1) pe_str (nomark _))
      (pss_cons (VW.ps_setLcK (i := 7) (own := [("_law_key_here", 8)]) rfl sc_drawn_base.nd rfl rfl (sw_true rfl rfl rfl (by decide +kernel)) (pi_list (pv 3)) (blkOk_by (own := [("_law_key_here", 8)]) (N := n_drawn_base) (sc := defScope s_drawn_base) (by decide +kernel)) (fun _ _ _ _ _ => viaG (pg_name (i := 8) sc_drawn_base.nd rfl (Or.inl rfl)) (by first | rfl | (dsimp only [Cx.blk]; done) | (dsimp only [Cx.blk]; rfl))) (fun _ _ _ _ _ => viaT (pts_one (pt_cmpR op_le (pv 8) pe_int (nomark _))) (by first | rfl | (dsimp only [Cx.blk]; done) | (dsimp only [Cx.blk]; rfl))) (fun _ _ _ _ _ => viaE (pe_tup (pa_cons (pv 8) (pa_cons (pe_call (ok_value T) (hr.mono (by decide)) rfl T.m_value T.F_value.kp T.b_value .nil VW.pass0F (pa_cons (pv 0) pa_nil)) pa_nil))) (by first | rfl | (dsimp only [Cx.blk]; done) | (dsimp only [Cx.blk]; rfl))))
      (pss_one (ps_ret (pe_tup (pa_cons pe_str (pa_cons (pe_callB (VW.call_min2A rfl) (by rfl) T.n_min (by decide +kernel) (pa_cons (pv 2) (pa_cons (pe_op op_sub pe_int (pe_callTy VW.call_int1A (by rfl) T.n_int (by decide +kernel) (pa_cons (pe_cmpR VW.op_notNA (pv 5) pe_non (nomark _)) pa_nil))) pa_nil))) (pa_cons (pv 5) (pa_cons (pv 6) (pa_cons (pe_slice sl_tupA (pe_callTy VW.call_tupA (by rfl) T.n_tuple (by decide +kernel) (pa_cons (pv 7) pa_nil)) po_none (po_some (pe_call (ok_take T) (hr.mono (by decide)) rfl T.m_take T.F_take.kp T.b_take .nil VW.pass0F (pa_cons (pv 0) (pa_cons pe_int pa_nil))))) pa_nil)))))))))
      pss_nil)
      (pss_cons (ps_set (i := 7) sc_drawn_base.nd rfl (Or.inl rfl) (VW.pe_kp (pe_op op_cat (VW.pe_kp (pe_lst (pa_cons (pe_tup (pa_cons (pv 2) (pa_cons (pe_call (ok_number T) (hr.mono (by decide)) rfl T.m_number T.F_number.kp T.b_number .nil VW.pass0F (pa_cons (pv 0) pa_nil)) pa_nil))) pa_nil))) (VW.pe_kp (pe_lc (own := [("_law_key_here", 8)]) rfl sc_drawn_base.nd (pi_list (pv 3)) (blkOk_by (own := [("_law_key_here", 8)]) (N := n_drawn_base) (sc := defScope s_drawn_base) (by decide +kernel)) (fun _ _ _ _ _ => viaG (pg_name (i := 8) sc_drawn_base.nd rfl (Or.inl rfl)) (by first | rfl | (dsimp only [Cx.blk]; done) | (dsimp only [Cx.blk]; rfl))) (fun _ _ _ _ _ => viaT (pts_one (pt_chain op_lt op_le (pv 2) (pv 8) pe_int)) (by first | rfl | (dsimp only [Cx.blk]; done) | (dsimp only [Cx.blk]; rfl))) (fun _ _ _ _ _ => viaE (pe_tup (pa_cons (pv 8) (pa_cons (pe_call (ok_number T) (hr.mono (by decide)) rfl T.m_number T.F_number.kp T.b_number .nil VW.pass0F (pa_cons (pv 0) pa_nil)) pa_nil))) (by first | rfl | (dsimp only [Cx.blk]; done) | (dsimp only [Cx.blk]; rfl))))))))
      (pss_one (ps_ret (pe_tup (pa_cons pe_str (pa_cons (pe_op op_add pe_int (pe_call (ok_take T) (hr.mono (by decide)) rfl T.m_take T.F_take.kp T.b_take .nil VW.pass0F (pa_cons (pv 0) (pa_cons pe_int pa_nil)))) (pa_cons (pv 2) (pa_cons (pv 5) (pa_cons (pv 6) (pa_cons (pe_callTy VW.call_tupA (by rfl) T.n_tuple (by decide +kernel) (pa_cons (pv 7) pa_nil)) pa_nil))))))))))))))))), ?_⟩
  dsimp only [cxOf, Cx.nox, Cx.wish, List.map]
  refine VW.body_less rh hv lv ?_
  refine ⟨fun env S1 => Wrap (∃ f : Int, env = [some (.ref q), some (.str z), some (.int f), none, none, none, none, none, none] ∧ isKeyI f ∧ VW.Drawn S q S1), ?_, ?_⟩
  · walk_at "v"
    intro r1 S1 r10 r11 d1
    have hq1 := d1.pool
    walk_at "v"
    intro f2 S2 hf2 d2
    have hq2 := d2.pool
    walk_at "v"
    intro r4 S4 r40 r41 d4
    have d5 := (d1.trans d2).trans d4
    have c : r4 = 0 ∨ r4 = 1 ∨ r4 = 2 := by omega
    rcases c with rfl | rfl | rfl
    · have a0 : ∀ x y z, atI [x, y, z] 0 = some (x : VW.D) := fun _ _ _ => atI_nat (j := 0) rfl
      walk_at "v"
      exact ⟨0, rfl, ⟨by omega, by omega⟩, d5⟩
    · have a0 : ∀ x y z, atI [x, y, z] 1 = some (y : VW.D) := fun _ _ _ => atI_nat (j := 1) rfl
      walk_at "v"
      exact ⟨r1, rfl, ⟨by omega, by omega⟩, d5⟩
    · have a0 : ∀ x y z, atI [x, y, z] 2 = some (z : VW.D) := fun _ _ _ => atI_nat (j := 2) rfl
      walk_at "v"
      exact ⟨f2, rfl, hf2, d5⟩
  rintro env S1 ⟨f, rfl, ⟨f0, f9⟩, d1⟩
  have hq1 := d1.pool
  walk_at "v"
  intro r2 S2 r20 r21 d2
  have dr2 := d1.trans d2
  have hq2 := d2.pool
  clear d1 d2 hq1
  walk_at "v"
  intro Lk hLk
  have nLk := hq2.ne hLk
  have hLS : S Lk = none := dr2.back hLk hq
  have ko : KeysOk f [f + r2] := ⟨by simp, List.pairwise_singleton _ _, fun k hk => by rw [List.mem_singleton.mp hk]; omega⟩
  have hq3 : VW.PoolS (VW.sup S2 Lk (.lst [.int (f + r2)])) q := hq2.over nLk
  refine ⟨fun env S4 => Wrap (∃ v5 ks S', env = [some (.ref q), some (.str z), some (.int f), some (.ref Lk), v5, none, none, none, none] ∧ S4 = VW.sup S' Lk (.lst (ks.map VW.D.int)) ∧ VW.Drawn S q S' ∧ KeysOk f ks ∧ ks.length ≤ 8), ?_, ?_⟩
  · walk_at "v"
    intro r5 S4 r50 r51 d4
    obtain ⟨S4, rfl, d4'⟩ := d4.under nLk; have d4 := d4'
    have d5 := dr2.trans d4
    walk_at "v"
    refine VW.ForD.mk ⟨fun j env S5 => Wrap (∃ v5 ks S', env = [some (.ref q), some (.str z), some (.int f), some (.ref Lk), v5, none, none, none, none] ∧ S5 = VW.sup S' Lk (.lst (ks.map VW.D.int)) ∧ VW.Drawn S q S' ∧ KeysOk f ks ∧ ks.length = j + 1), ⟨none, [f + r2], S4, rfl, rfl, d5, ko, rfl⟩, fun _ _ _ _ _ => trivial, ?_, ?_⟩
    · rintro j x env S5 hj rfl ⟨v5, ks, S', rfl, rfl, dd, kk, hkl⟩
      have hj : j < r5.toNat := hj
      have hjl : j < 7 := by omega
      obtain ⟨rs, y, eks, hy, hym⟩ := kk.last
      have a0 : atI (ks.map VW.D.int) (-1) = some (.int y) := by rw [eks, List.map_append]; exact atI_lastD _ _
      have hqa := dd.pool.over (o := .lst (ks.map VW.D.int)) nLk
      walk_at "v"
      intro r6 S7 r60 r61 d7
      obtain ⟨S7, rfl, d7'⟩ := d7.under nLk; have d7 := d7'
      have hlz : (ks.map VW.D.int).length < sizeLine := by rw [List.length_map]; exact small1000 (by omega)
      have e1 : ks.map VW.D.int ++ [.int (y + 1 + r6)] = (ks ++ [y + 1 + r6]).map VW.D.int := by rw [List.map_append]; rfl
      walk_at "v"
      exact ⟨_, ks ++ [y + 1 + r6], S7, rfl, by rw [VW.sup_sup, ← e1]; rfl, dd.trans d7, kk.push (fun k hk => by have := hym k hk; omega), by rw [List.length_append, hkl]; rfl⟩
    · rintro env S5 ⟨v5, ks, S', rfl, rfl, dd, kk, hkl⟩
      have hkl : ks.length = r5.toNat + 1 := hkl
      exact ⟨v5, ks, S', rfl, rfl, dd, kk, by omega⟩
  rintro env S4 ⟨v5, ks, S4, rfl, rfl, d4, kk, hkl⟩
  clear hq3 ko dr2 hq2
  have hq4 := d4.pool.over (o := .lst (ks.map VW.D.int)) nLk
  obtain ⟨rs, y, eks, hy, hym⟩ := kk.last
  have a0 : atI (ks.map VW.D.int) (-1) = some (.int y) := by rw [eks, List.map_append]; exact atI_lastD _ _
  walk_at "v"
  refine ⟨fun env S5 => Wrap (∃ vh vr hi ri S', env = [some (.ref q), some (.str z), some (.int f), some (.ref Lk), v5, some vh, some vr, none, none] ∧ S5 = VW.sup S' Lk (.lst (ks.map VW.D.int)) ∧ VW.Drawn S q S' ∧ VW.py vh = some hi ∧ VW.py vr = some ri ∧ BndOk f hi ri ∧ (∀ j, hi = .int j → ∀ k ∈ ks, k < j) ∧ VW.isNon vh = nonD hi), ?_, ?_⟩
  · walk_at "v"
    intro r5 S5 r50 r51 d5
    obtain ⟨S5, rfl, d5'⟩ := d5.under nLk; have d5 := d5'
    have dd := d4.trans d5
    have hq5 := dd.pool.over (o := .lst (ks.map VW.D.int)) nLk
    walk_at "v"
    with_reducible refine by2 (fun c => ?_) (fun c => ?_)
    · walk_at "v"
      with_reducible refine by2 (fun c2 => ?_) (fun c2 => ?_)
      · have c2 := of_decide_eq_true c2
        walk_at "v"
        intro r6 S6 r60 r61 d6
        obtain ⟨S6, rfl, d6'⟩ := d6.under nLk; have d6 := d6'
        have dd6 := dd.trans d6
        have hq6 := dd6.pool.over (o := .lst (ks.map VW.D.int)) nLk
        walk_at "v"
        intro b S7 hb d7
        obtain ⟨S7, rfl, d7'⟩ := d7.under nLk; have d7 := d7'
        have hj : y + 1 + r6 * (999998 - y) ≤ 999999 ∧ y < y + 1 + r6 * (999998 - y) := by
          have c : r6 = 0 ∨ r6 = 1 := by omega
          rcases c with rfl | rfl <;> omega
        exact ⟨_, _, .int (y + 1 + r6 * (999998 - y)), .int b, S7, rfl, rfl, dd6.trans d7, rfl, rfl, ⟨f0, f9, .inr ⟨_, _, rfl, rfl, by omega, hj.1, hb⟩⟩, fun j e k hk => by cases e; have := hym k hk; omega, rfl⟩
      · exact ⟨_, _, .none, .none, S5, rfl, rfl, dd, rfl, rfl, ⟨f0, f9, .inl ⟨rfl, rfl⟩⟩, (fun j e => by cases e), rfl⟩
    · exact ⟨_, _, .none, .none, S5, rfl, rfl, dd, rfl, rfl, ⟨f0, f9, .inl ⟨rfl, rfl⟩⟩, (fun j e => by cases e), rfl⟩
  rintro env S5 ⟨vh, vr, hi, ri, S5, rfl, rfl, d5, hvh, hvr, hb, hhi, hnon⟩
  have hq5 := d5.pool.over (o := .lst (ks.map VW.D.int)) nLk
  clear hq4 d4
  have hkl2 : (ks.map VW.D.int).length < sizeLine := by rw [List.length_map]; exact small1000 (by omega)
  have drop : ∀ {S6 : VW.Sto}, VW.Drawn (VW.sup S5 Lk (.lst (ks.map VW.D.int))) q S6 → ∃ S7, S6 = VW.sup S7 Lk (.lst (ks.map VW.D.int)) ∧ VW.Drawn S q S7 := fun d => by
    obtain ⟨S7, e, d⟩ := d.under nLk
    exact ⟨S7, e, d5.trans d⟩
  rcases hz with rfl | rfl
  · refine ⟨fun _ _ => Wrap False, ?_, fun _ _ z => z.ex.elim⟩
    walk_at "v"
    refine VW.lcD_drawn (q := q) (ks.map VW.D.int) (fun i acc => ∃ kvs : List (Int × Int), acc = kvs.map rowI ∧ kvs.map (·.1) = (ks.take i).filter (fun k => decide (k ≤ 999999)) ∧ (∀ p ∈ kvs, IB p.2) ∧ kvs.length ≤ i) rfl (fun i d e => e) hq5 ?_ ⟨[], rfl, by simp, fun p hp => by simp at hp, Nat.le_refl _⟩ ?_ ?_ ?_
    · intro L acc S' hL hk
      refine Or.inr (Or.inl ⟨Lk, rfl, ?_⟩)
      have e0 : (VW.sup S5 Lk (.lst (ks.map VW.D.int))) Lk = some (.lst (ks.map VW.D.int)) := VW.sup_same
      rw [VW.sup_ne (VW.sne_of e0 hL)]
      exact hk Lk _ e0 nLk
    · rintro i acc ⟨kvs, rfl, e1, _, hl⟩
      rw [List.length_map]
      have h1 := congrArg List.length e1
      rw [List.length_map] at h1
      have h2 := List.length_filter_le (fun k => decide (k ≤ 999999)) (ks.take i)
      rw [List.length_take] at h2
      exact small1000 (by omega)
    · rintro i d acc S' Zy Zn hx ⟨kvs, rfl, e1, e2, e3⟩ hq' hk hy hn
      rw [List.getElem?_map] at hx
      cases g : ks[i]? with
      | none => rw [g] at hx; cases hx
      | some kk1 =>
        rw [g] at hx
        obtain rfl : VW.D.int kk1 = d := Option.some.inj hx
        walk_at "v"
        with_reducible refine by2 (fun c => ?_) (fun c => ?_)
        · walk_at "v"
          intro v8 S8 hv8 d8
          walk_at "v"
          refine hy _ _ d8 ⟨kvs ++ [(kk1, v8)], by rw [List.map_append]; rfl, ?_, ?_, by rw [List.length_append]; exact Nat.succ_le_succ e3⟩
          · rw [List.map_append, e1, take_snoc g, List.filter_append, List.filter_cons, if_pos c]; rfl
          · intro p hp
            rcases List.mem_append.mp hp with hp | hp
            · exact e2 p hp
            · rw [List.mem_singleton.mp hp]; exact hv8
        · refine hn _ (.refl hq') ⟨kvs, rfl, ?_, e2, Nat.le_succ_of_le e3⟩
          rw [e1, take_snoc g, List.filter_append, List.filter_cons, if_neg (by rw [show decide (kk1 ≤ 999999) = false from c]; simp)]
          exact (List.append_nil _).symm
    · rintro acc S' ⟨kvs, rfl, e1, e2, e3⟩ dd
      obtain ⟨S6, rfl, d6⟩ := drop dd
      rw [List.length_map] at e1 e3
      rw [List.take_length] at e1
      have hq6 := d6.pool.over (o := .lst (ks.map VW.D.int)) nLk
      walk_at "v"
      intro r9 S8 r90 r91 d8
      obtain ⟨S9, rfl, d9⟩ := d8.under nLk
      walk_at "v"
      have emin : (if (999999 : Int) - (if (!VW.isNon vh) = true then 1 else 0) < f then (999999 : Int) - (if (!VW.isNon vh) = true then 1 else 0) else f) = f := by
        rw [hnon]
        rcases hb.end_ with ⟨rfl, _⟩ | ⟨j, b, rfl, _, h1, h2, _⟩
        · have e : (if (!nonD PyData.none) = true then (1 : Int) else 0) = 0 := rfl
          rw [e, if_neg (by omega)]
        · have e : (if (!nonD (PyData.int j)) = true then (1 : Int) else 0) = 1 := rfl
          rw [e, if_neg (by omega)]
      rw [emin]
      obtain ⟨n, rfl⟩ : ∃ n : Nat, r9 = (n : Int) := ⟨r9.toNat, by omega⟩
      rw [cutD_take]
      have hks : ∀ p ∈ kvs.take n, p.1 ∈ ks ∧ p.1 ≤ 999999 := fun p hp => by
        have m : p.1 ∈ ks.filter (fun k => decide (k ≤ 999999)) := e1 ▸ List.mem_map_of_mem (List.mem_of_mem_take hp)
        obtain ⟨h1, h2⟩ := List.mem_filter.mp m
        exact ⟨h1, of_decide_eq_true h2⟩
      refine ⟨S9, VW.less_sup ((d6.trans d9).gone hLS nLk), k _ [.str "leaf", .int f, hi, ri, .tuple ((kvs.take n).map rowP)] _ (d6.trans d9) ?_ ?_ ?_⟩
      · show VW.pyAll [VW.D.str (Str.ofString "leaf"), .int f, vh, vr, .tup ((kvs.map rowI).take n)] = _
        rw [← List.map_take]
        simp only [VW.pyAll, VW.py, hvh, hvr, py_rows, Option.map_some, Option.bind_some]
      · refine leaf_of hb ?_ (fun d hd => ?_) ?_
        · rw [List.length_map, List.length_take]; omega
        · obtain ⟨p, hp, rfl⟩ := List.mem_map.mp hd
          obtain ⟨m, c⟩ := hks p hp
          have := kk.ge p.1 m
          exact ⟨p.1, p.2, rfl, by omega, c, this, fun j e => hhi j e p.1 m, rfl⟩
        · rw [List.map_map]
          have : (keyOf ∘ rowP) = fun p : Int × Int => p.1 := rfl
          rw [this, List.map_take, e1]
          exact (kk.pw.sublist List.filter_sublist).sublist (List.take_sublist _ _)
      · obtain ⟨sm1, sm2, sm3⟩ := hb.sm
        refine leaf_sm sm1 sm2 sm3 ?_ fun d hd => ?_
        · rw [List.length_map, List.length_take]; omega
        · obtain ⟨p, hp, rfl⟩ := List.mem_map.mp hd
          obtain ⟨m, c⟩ := hks p hp
          have := kk.ge p.1 m
          exact ⟨p.1, p.2, rfl, ⟨by omega, by omega⟩, e2 p (List.mem_of_mem_take hp)⟩
  · refine ⟨fun env S6 => Wrap (env = [some (.ref q), some (.str "bough"), some (.int f), some (.ref Lk), v5, some vh, some vr, none, none] ∧ S6 = VW.sup S5 Lk (.lst (ks.map VW.D.int))), ?_, ?_⟩
    · walk_at "v"
      exact ⟨rfl, rfl⟩
    rintro env S6 ⟨rfl, rfl⟩
    walk_at "v"
    intro v0 S7 hv0 d7
    obtain ⟨S7, rfl, d7'⟩ := drop d7
    have hv0 : isNumI v0 := hv0
    have hq7 := d7'.pool.over (o := .lst (ks.map VW.D.int)) nLk
    walk_at "v"
    refine VW.lcD_drawn (q := q) (ks.map VW.D.int) (fun i acc => ∃ kvs : List (Int × Int), acc = kvs.map rowI ∧ kvs.map (·.1) = (ks.take i).filter (fun k => decide (f < k) && decide (k ≤ 999999)) ∧ (∀ p ∈ kvs, isNumI p.2) ∧ kvs.length ≤ i) rfl (fun i d e => e) hq7 ?_ ⟨[], rfl, by simp, fun p hp => by simp at hp, Nat.le_refl _⟩ ?_ ?_ ?_
    · intro L acc S' hL hk
      refine Or.inr (Or.inl ⟨Lk, rfl, ?_⟩)
      have e0 : (VW.sup S7 Lk (.lst (ks.map VW.D.int))) Lk = some (.lst (ks.map VW.D.int)) := VW.sup_same
      rw [VW.sup_ne (VW.sne_of e0 hL)]
      exact hk Lk _ e0 nLk
    · rintro i acc ⟨kvs, rfl, e1, _, hl⟩
      rw [List.length_map]
      have h1 := congrArg List.length e1
      rw [List.length_map] at h1
      have h2 := List.length_filter_le (fun k => decide (f < k) && decide (k ≤ 999999)) (ks.take i)
      rw [List.length_take] at h2
      exact small1000 (by omega)
    · rintro i d acc S' Zy Zn hx ⟨kvs, rfl, e1, e2, e3⟩ hq' hk hy hn
      rw [List.getElem?_map] at hx
      cases g : ks[i]? with
      | none => rw [g] at hx; cases hx
      | some kk1 =>
        rw [g] at hx
        obtain rfl : VW.D.int kk1 = d := Option.some.inj hx
        have hskip : (decide (f < kk1) && decide (kk1 ≤ 999999)) = false → Zn S' := fun c => hn _ (.refl hq') ⟨kvs, rfl, by
          rw [e1, take_snoc g, List.filter_append, List.filter_cons, if_neg (by rw [c]; simp)]
          exact (List.append_nil _).symm, e2, Nat.le_succ_of_le e3⟩
        walk_at "v"
        cases c1 : decide (f < kk1) with
        | false =>
          rw [c1, Bool.false_and] at hskip
          with_reducible refine else_ rfl ?_
          walk_at "v"
          exact hskip rfl
        | true =>
          rw [c1, Bool.true_and] at hskip
          with_reducible refine then_ rfl ?_
          walk_at "v"
          cases c2 : decide (kk1 ≤ 999999) with
          | false =>
            with_reducible refine else_ rfl ?_
            exact hskip c2
          | true =>
            with_reducible refine then_ rfl ?_
            walk_at "v"
            intro v8 S8 hv8 d8
            have hv8 : isNumI v8 := hv8
            walk_at "v"
            refine hy _ _ d8 ⟨kvs ++ [(kk1, v8)], by rw [List.map_append]; rfl, ?_, ?_, by rw [List.length_append]; exact Nat.succ_le_succ e3⟩
            · rw [List.map_append, e1, take_snoc g, List.filter_append, List.filter_cons, if_pos (by rw [c1, c2]; rfl)]; rfl
            · intro p hp
              rcases List.mem_append.mp hp with hp | hp
              · exact e2 p hp
              · rw [List.mem_singleton.mp hp]; exact hv8
    · rintro acc S' ⟨kvs, rfl, e1, e2, e3⟩ dd
      obtain ⟨S8, rfl, d8⟩ := dd.under nLk
      rw [List.length_map] at e1 e3
      rw [List.take_length] at e1
      have hq8 := d8.pool.over (o := .lst (ks.map VW.D.int)) nLk
      have hz : ([VW.D.tup [.int f, .int v0]] : List VW.D).length + (kvs.map rowI).length ≤ sizeLine := Nat.le_of_lt (small1000 (by rw [List.length_map]; show 1 + kvs.length ≤ 1000; omega))
      walk_at "v"
      intro r9 S9 r90 r91 d9
      obtain ⟨S10, rfl, d10⟩ := d9.under nLk
      walk_at "v"
      have hks : ∀ p ∈ kvs, p.1 ∈ ks ∧ f < p.1 ∧ p.1 ≤ 999999 := fun p hp => by
        have m : p.1 ∈ ks.filter (fun k => decide (f < k) && decide (k ≤ 999999)) := e1 ▸ List.mem_map_of_mem hp
        obtain ⟨h1, h2⟩ := List.mem_filter.mp m
        rw [Bool.and_eq_true] at h2
        exact ⟨h1, of_decide_eq_true h2.1, of_decide_eq_true h2.2⟩
      have hin : ∀ p ∈ (f, v0) :: kvs, f ≤ p.1 ∧ p.1 ≤ 999999 ∧ (∀ j, hi = .int j → p.1 < j) ∧ isNumI p.2 := fun p hp => by
        rcases List.mem_cons.mp hp with rfl | hp
        · refine ⟨Int.le_refl _, f9, fun j e => ?_, hv0⟩
          have hm : y ∈ ks := by rw [eks]; exact List.mem_append_right _ (List.mem_singleton.mpr rfl)
          have := hhi j e y hm
          show f < j
          omega
        · obtain ⟨m, c1, c2⟩ := hks p hp
          exact ⟨by omega, c2, fun j e => hhi j e p.1 m, e2 p hp⟩
      refine ⟨S10, VW.less_sup (((d7'.trans d8).trans d10).gone hLS nLk), k _ [.str "bough", .int (1 + r9), .int f, hi, ri, .tuple (((f, v0) :: kvs).map rowP)] _ ((d7'.trans d8).trans d10) ?_ ?_ ?_⟩
      · show VW.pyAll [VW.D.str (Str.ofString "bough"), .int (1 + r9), .int f, vh, vr, .tup (((f, v0) :: kvs).map rowI)] = _
        simp only [VW.pyAll, VW.py, hvh, hvr, py_rows, Option.map_some, Option.bind_some]
      · have hkey : ∀ zs : List (Int × Int), (zs.map rowP).map keyOf = zs.map (·.1) := fun zs => by rw [List.map_map]; rfl
        refine bough_of (d0 := rowP (f, v0)) (ds := kvs.map rowP) (by omega) (by omega) hb (by rw [List.length_cons, List.length_map]; omega) (fun d hd => ?_) ?_ rfl
        · obtain ⟨p, hp, rfl⟩ := List.mem_map.mp (show d ∈ ((f, v0) :: kvs).map rowP from hd)
          obtain ⟨h1, h2, h3, h4⟩ := hin p hp
          exact ⟨p.1, p.2, rfl, by omega, h2, h1, h3, decide_eq_true h4.1⟩
        · show ((((f, v0) :: kvs).map rowP).map keyOf).Pairwise (· < ·)
          rw [hkey, List.map_cons, List.pairwise_cons]
          refine ⟨fun k hk => ?_, e1 ▸ kk.pw.filter _⟩
          obtain ⟨p, hp, rfl⟩ := List.mem_map.mp hk
          exact (hks p hp).2.1
      · obtain ⟨sm1, sm2, sm3⟩ := hb.sm
        refine bough_sm ⟨by omega, by omega⟩ sm1 sm2 sm3 ?_ fun d hd => ?_
        · rw [List.length_map, List.length_cons]; omega
        · obtain ⟨p, hp, rfl⟩ := List.mem_map.mp hd
          obtain ⟨h1, h2, h3, h4⟩ := hin p hp
          exact ⟨p.1, p.2, rfl, ⟨by omega, by omega⟩, h4.2⟩

/-! ### the drawn record -/
def spDrawnR : VW.SpD := fun ds S P _ => ∃ q : Addr, ds = [.ref q] ∧ VW.PoolS S q ∧ ∀ (d : List VW.D) (p : List PyData) (S' : VW.Sto), VW.Drawn S q S' → VW.pyAll d = some p → recD (.tuple p) = true → SmR (.tuple p) → P (.tup d) S'
abbrev words : List Str := drawWords
theorem numD_of {i : Int} (h : 0 ≤ i) : numD (.int i) = true := decide_eq_true h
theorem ok_drawn_record (T : Txt w K mg A) : FnOk P w K mg base CX0 4 A.a_drawn_record A.d_drawn_record ["_law_pool_here"] (VW.upSp K spDrawnR) := by
  refine T.F_drawn_record.ok sc_drawn_record (VW.upSp.len fun ds S P PE h => by obtain ⟨_, rfl, _⟩ := h; rfl) (fun cdv A' outer s H vs Q E hr h => ?_)
  obtain ⟨F, S, ds, P', PE, rh, hv, ⟨q, rfl, hq, k⟩, lv, lx⟩ := h
  haveI : VW.XLe K F E PE := ⟨lx⟩
  refine ⟨_, (pss_cons (ps_set (i := 1) sc_drawn_record.nd rfl (Or.inl rfl) (VW.pe_kp (pe_lst (pa_cons pe_str (pa_cons pe_str (pa_cons pe_str (pa_cons pe_str (pa_cons pe_str (pa_cons pe_str (pa_cons pe_str (pa_cons pe_str (pa_cons pe_str (pa_cons pe_str (pa_cons pe_str (pa_cons pe_str pa_nil)))))))))))))))
      (VW.cutAt (ps_set (i := 2) sc_drawn_record.nd rfl (Or.inl rfl) (pe_ix ix_list (pv 1) (pe_call (ok_take T) (hr.mono (by decide)) rfl T.m_take T.F_take.kp T.b_take .nil VW.pass0F (pa_cons (pv 0) (pa_cons pe_int pa_nil))) (fun _ _ => rfl)))
      (VW.cutAt (ps_if (pt_cmpR op_in_seq (pv 2) (VW.pe_kp (pe_lst (pa_cons pe_str (pa_cons pe_str pa_nil)))) rfl)
      (pss_one (ps_ret (pe_call (ok_drawn_base T) (hr.mono (by decide)) rfl T.m_drawn_base T.F_drawn_base.kp T.b_drawn_base .nil VW.pass0F (pa_cons (pv 0) (pa_cons (pv 2) pa_nil)))))
      pss_nil)
      (VW.cutAt (ps_if (pt_cmpR op_in_seq (pv 2) (VW.pe_kp (pe_lst (pa_cons pe_str (pa_cons pe_str (pa_cons pe_str pa_nil))))) rfl)
      (pss_one (ps_ret (pe_slice sl_tupA (pe_tup (pa_cons (pv 2) (pa_cons (pe_call (ok_number T) (hr.mono (by decide)) rfl T.m_number T.F_number.kp T.b_number .nil VW.pass0F (pa_cons (pv 0) pa_nil)) (pa_cons (pe_call (ok_number T) (hr.mono (by decide)) rfl T.m_number T.F_number.kp T.b_number .nil VW.pass0F (pa_cons (pv 0) pa_nil)) pa_nil)))) po_none (po_some (pe_op op_sub pe_int (pe_callTy VW.call_int1A (by rfl) T.n_int (by decide +kernel) (pa_cons (pe_cmpR op_eq (pv 2) pe_str (nomark _)) pa_nil)))))))
      pss_nil)
      (VW.cutAt (ps_if (pt_cmpR op_in_seq (pv 2) (VW.pe_kp (pe_lst (pa_cons pe_str (pa_cons pe_str pa_nil)))) rfl)
      (pss_one (ps_ret (pe_tup (pa_cons (pv 2) (pa_cons (pe_call (ok_key T) (hr.mono (by decide)) rfl T.m_key T.F_key.kp T.b_key .nil VW.pass0F (pa_cons (pv 0) pa_nil)) (pa_cons (pe_call (ok_number T) (hr.mono (by decide)) rfl T.m_number T.F_number.kp T.b_number .nil VW.pass0F (pa_cons (pv 0) pa_nil)) pa_nil))))))
      pss_nil)
      (VW.cutAt (ps_if (pt_cmpR op_eq (pv 2) pe_str (nomark _))
      (pss_one (ps_ret (pe_tup (pa_cons (pv 2) (pa_cons (pe_call (ok_key T) (hr.mono (by decide)) rfl T.m_key T.F_key.kp T.b_key .nil VW.pass0F (pa_cons (pv 0) pa_nil)) (pa_cons (pe_call (ok_value T) (hr.mono (by decide)) rfl T.m_value T.F_value.kp T.b_value .nil VW.pass0F (pa_cons (pv 0) pa_nil)) (pa_cons (pe_call (ok_number T) (hr.mono (by decide)) rfl T.m_number T.F_number.kp T.b_number .nil VW.pass0F (pa_cons (pv 0) pa_nil)) pa_nil)))))))
      pss_nil)
      (VW.cutAt (ps_if (pt_cmpR op_in_seq (pv 2) (VW.pe_kp (pe_lst (pa_cons pe_str (pa_cons pe_str pa_nil)))) rfl)
      (pss_one (ps_ret (pe_tup (pa_cons (pv 2) (pa_cons (pe_call (ok_key T) (hr.mono (by decide)) rfl T.m_key T.F_key.kp T.b_key .nil VW.pass0F (pa_cons (pv 0) pa_nil)) (pa_cons (pe_call (ok_number T) (hr.mono (by decide)) rfl T.m_number T.F_number.kp T.b_number .nil VW.pass0F (pa_cons (pv 0) pa_nil)) (pa_cons (pe_call (ok_number T) (hr.mono (by decide)) rfl T.m_number T.F_number.kp T.b_number .nil VW.pass0F (pa_cons (pv 0) pa_nil)) pa_nil)))))))
      pss_nil)
      (pss_one (ps_ret (pe_tup (pa_cons (pv 2) (pa_cons (pe_call (ok_key T) (hr.mono (by decide)) rfl T.m_key T.F_key.kp T.b_key .nil VW.pass0F (pa_cons (pv 0) pa_nil)) (pa_cons (pe_call (ok_number T) (hr.mono (by decide)) rfl T.m_number T.F_number.kp T.b_number .nil VW.pass0F (pa_cons (pv 0) pa_nil)) (pa_cons (pe_call (ok_number T) (hr.mono (by decide)) rfl T.m_number T.F_number.kp T.b_number .nil VW.pass0F (pa_cons (pv 0) pa_nil)) (pa_cons (pe_call (ok_number T) (hr.mono (by decide)) rfl T.m_number T.F_number.kp T.b_number .nil VW.pass0F (pa_cons (pv 0) pa_nil)) pa_nil))))))))))))))), ?_⟩
  dsimp only [cxOf, Cx.nox, Cx.wish, List.map]
  refine VW.body_up rh hv lv ?_
  walk_at "v"
  have hW : ∃ W, W = VW.D.lst (words.map VW.D.str) := ⟨_, rfl⟩
  obtain ⟨W, eW⟩ := hW
  refine ⟨fun env S3 => Wrap (∃ z : Str, env = [some (.ref q), some W, some (.str z)] ∧ VW.Drawn S q S3 ∧ z ∈ words), ?_, ?_⟩
  · walk_at "v"
    intro r1 S2 r10 r11 d2
    obtain ⟨n, rfl⟩ : ∃ n : Nat, r1 = (n : Int) := ⟨r1.toNat, by omega⟩
    have hn : n < words.length := by show n < 12; omega
    have a0 : atI (words.map VW.D.str) (n : Int) = some (.str words[n]) := atI_nat (by rw [List.getElem?_map, List.getElem?_eq_getElem hn]; rfl)
    walk_at "v"
    exact ⟨_, by rw [eW]; rfl, d2, List.getElem_mem hn⟩
  rintro env S3 ⟨z, rfl, d3, hz⟩
  clear eW
  have hq3 := d3.pool

  refine ⟨fun env S4 => Wrap (env = [some (.ref q), some W, some (.str z)] ∧ VW.Drawn S q S4 ∧ z ∉ (["leaf", "bough"] : List Str)), ?_, ?_⟩
  · walk_at "v"
    with_reducible refine by2 (fun c => ?_) (fun c => ?_)
    · have c : z ∈ (["leaf", "bough"] : List Str) := of_decide_eq_true ((VW.inD_str z ["leaf", "bough"]).symm.trans c)
      have hc : z = "leaf" ∨ z = "bough" := by simpa using c
      walk_at "v"
      exact fun d p S' e => k d p S' (d3.trans e)
    · exact ⟨rfl, d3, of_decide_eq_false ((VW.inD_str z ["leaf", "bough"]).symm.trans c)⟩
  rintro env S4 ⟨rfl, d4, x4⟩
  have hq4 := d4.pool
  refine ⟨fun env S4 => Wrap (env = [some (.ref q), some W, some (.str z)] ∧ VW.Drawn S q S4 ∧ z ∉ (["moved", "gone", "lowering"] : List Str)), ?_, ?_⟩
  · walk_at "v"
    with_reducible refine by2 (fun c => ?_) (fun c => ?_)
    · have c : z ∈ (["moved", "gone", "lowering"] : List Str) := of_decide_eq_true ((VW.inD_str z ["moved", "gone", "lowering"]).symm.trans c)
      have hc : z = "moved" ∨ z = "gone" ∨ z = "lowering" := by simpa using c
      walk_at "v"
      intro v10 G10 b_10 e10
      have b0_10 : IB v10 := b_10.2
      have n0_10 : 0 ≤ v10 := b_10.1
      have dr10 := d4.trans e10
      have hq10_ := dr10.pool
      walk_at "v"
      intro v11 G11 b_11 e11
      have b0_11 : IB v11 := b_11.2
      have n0_11 : 0 ≤ v11 := b_11.1
      have dr11 := dr10.trans e11
      have hq11_ := dr11.pool
      walk_at "v"
      rcases hc with rfl | rfl | rfl
      · exact k [.str "moved", .int v10] [.str "moved", .int v10] _ dr11 rfl (form_of (ks := [.num]) (by decide +kernel) (by decide +kernel) (by decide +kernel) rfl (by
          show (numD (.int v10) && true) = true
          rw [numD_of n0_10]; rfl)) (form_sm (ns := [v10]) hz (by simp) (fun n hn => by simp only [List.mem_cons, List.not_mem_nil, or_false] at hn; rcases hn with rfl; all_goals assumption))
      · exact k [.str "gone", .int v10, .int v11] [.str "gone", .int v10, .int v11] _ dr11 rfl (form_of (ks := [.num, .num]) (by decide +kernel) (by decide +kernel) (by decide +kernel) rfl (by
          show (numD (.int v10) && (numD (.int v11) && true)) = true
          rw [numD_of n0_10, numD_of n0_11]; rfl)) (form_sm (ns := [v10, v11]) hz (by simp) (fun n hn => by simp only [List.mem_cons, List.not_mem_nil, or_false] at hn; rcases hn with rfl | rfl; all_goals assumption))
      · exact k [.str "lowering", .int v10, .int v11] [.str "lowering", .int v10, .int v11] _ dr11 rfl (form_of (ks := [.num, .num]) (by decide +kernel) (by decide +kernel) (by decide +kernel) rfl (by
          show (numD (.int v10) && (numD (.int v11) && true)) = true
          rw [numD_of n0_10, numD_of n0_11]; rfl)) (form_sm (ns := [v10, v11]) hz (by simp) (fun n hn => by simp only [List.mem_cons, List.not_mem_nil, or_false] at hn; rcases hn with rfl | rfl; all_goals assumption))
    · exact ⟨rfl, d4, of_decide_eq_false ((VW.inD_str z ["moved", "gone", "lowering"]).symm.trans c)⟩
  rintro env S4 ⟨rfl, d5, x5⟩
  have hq5 := d5.pool
  refine ⟨fun env S4 => Wrap (env = [some (.ref q), some W, some (.str z)] ∧ VW.Drawn S q S4 ∧ z ∉ (["take", "less"] : List Str)), ?_, ?_⟩
  · walk_at "v"
    with_reducible refine by2 (fun c => ?_) (fun c => ?_)
    · have c : z ∈ (["take", "less"] : List Str) := of_decide_eq_true ((VW.inD_str z ["take", "less"]).symm.trans c)
      have hc : z = "take" ∨ z = "less" := by simpa using c
      walk_at "v"
      intro v12 G12 b_12 e12
      obtain ⟨k0_12, k9_12⟩ := b_12
      have b0_12 : IB v12 := ⟨by omega, by omega⟩
      have dr12 := d5.trans e12
      have hq12_ := dr12.pool
      walk_at "v"
      intro v13 G13 b_13 e13
      have b0_13 : IB v13 := b_13.2
      have n0_13 : 0 ≤ v13 := b_13.1
      have dr13 := dr12.trans e13
      have hq13_ := dr13.pool
      walk_at "v"
      refine k _ (.str z :: [.int v12, .int v13]) _ dr13 rfl ?_ (form_sm (ns := [v12, v13]) hz (by simp) (fun n hn => by simp only [List.mem_cons, List.not_mem_nil, or_false] at hn; rcases hn with rfl | rfl; all_goals assumption))
      refine form_of (ks := [.key, .num]) ?_ ?_ ?_ rfl ?_
      · rcases hc with rfl | rfl <;> decide +kernel
      · rcases hc with rfl | rfl <;> decide +kernel
      · rcases hc with rfl | rfl <;> decide +kernel
      · show (keyD (.int v12) && (numD (.int v13) && true)) = true
        rw [keyD_of k0_12 k9_12, numD_of n0_13]; rfl
    · exact ⟨rfl, d5, of_decide_eq_false ((VW.inD_str z ["take", "less"]).symm.trans c)⟩
  rintro env S4 ⟨rfl, d6, x6⟩
  have hq6 := d6.pool
  refine ⟨fun env S4 => Wrap (env = [some (.ref q), some W, some (.str z)] ∧ VW.Drawn S q S4 ∧ z ≠ "put"), ?_, ?_⟩
  · walk_at "v"
    with_reducible refine by2 (fun c => ?_) (fun c => ?_)
    · have hc : z = "put" := of_decide_eq_true c
      walk_at "v"
      intro v14 G14 b_14 e14
      obtain ⟨k0_14, k9_14⟩ := b_14
      have b0_14 : IB v14 := ⟨by omega, by omega⟩
      have dr14 := d6.trans e14
      have hq14_ := dr14.pool
      walk_at "v"
      intro v15 G15 b_15 e15
      have b0_15 : IB v15 := b_15
      have dr15 := dr14.trans e15
      have hq15_ := dr15.pool
      walk_at "v"
      intro v16 G16 b_16 e16
      have b0_16 : IB v16 := b_16.2
      have n0_16 : 0 ≤ v16 := b_16.1
      have dr16 := dr15.trans e16
      have hq16_ := dr16.pool
      walk_at "v"
      refine k _ (.str z :: [.int v14, .int v15, .int v16]) _ dr16 rfl ?_ (form_sm (ns := [v14, v15, v16]) hz (by simp) (fun n hn => by simp only [List.mem_cons, List.not_mem_nil, or_false] at hn; rcases hn with rfl | rfl | rfl; all_goals assumption))
      refine form_of (ks := [.key, .whole, .num]) ?_ ?_ ?_ rfl ?_
      · subst hc; decide +kernel
      · subst hc; decide +kernel
      · subst hc; decide +kernel
      · show (keyD (.int v14) && (wholeD (.int v15) && (numD (.int v16) && true))) = true
        rw [keyD_of k0_14 k9_14, numD_of n0_16]; rfl
    · exact ⟨rfl, d6, of_decide_eq_false c⟩
  rintro env S4 ⟨rfl, d7, x7⟩
  have hq7 := d7.pool
  refine ⟨fun env S4 => Wrap (env = [some (.ref q), some W, some (.str z)] ∧ VW.Drawn S q S4 ∧ z ∉ (["part", "entry"] : List Str)), ?_, ?_⟩
  · walk_at "v"
    with_reducible refine by2 (fun c => ?_) (fun c => ?_)
    · have c : z ∈ (["part", "entry"] : List Str) := of_decide_eq_true ((VW.inD_str z ["part", "entry"]).symm.trans c)
      have hc : z = "part" ∨ z = "entry" := by simpa using c
      walk_at "v"
      intro v17 G17 b_17 e17
      obtain ⟨k0_17, k9_17⟩ := b_17
      have b0_17 : IB v17 := ⟨by omega, by omega⟩
      have dr17 := d7.trans e17
      have hq17_ := dr17.pool
      walk_at "v"
      intro v18 G18 b_18 e18
      have b0_18 : IB v18 := b_18.2
      have n0_18 : 0 ≤ v18 := b_18.1
      have dr18 := dr17.trans e18
      have hq18_ := dr18.pool
      walk_at "v"
      intro v19 G19 b_19 e19
      have b0_19 : IB v19 := b_19.2
      have n0_19 : 0 ≤ v19 := b_19.1
      have dr19 := dr18.trans e19
      have hq19_ := dr19.pool
      walk_at "v"
      refine k _ (.str z :: [.int v17, .int v18, .int v19]) _ dr19 rfl ?_ (form_sm (ns := [v17, v18, v19]) hz (by simp) (fun n hn => by simp only [List.mem_cons, List.not_mem_nil, or_false] at hn; rcases hn with rfl | rfl | rfl; all_goals assumption))
      refine form_of (ks := [.key, .num, .num]) ?_ ?_ ?_ rfl ?_
      · rcases hc with rfl | rfl <;> decide +kernel
      · rcases hc with rfl | rfl <;> decide +kernel
      · rcases hc with rfl | rfl <;> decide +kernel
      · show (keyD (.int v17) && (numD (.int v18) && (numD (.int v19) && true))) = true
        rw [keyD_of k0_17 k9_17, numD_of n0_18, numD_of n0_19]; rfl
    · exact ⟨rfl, d7, of_decide_eq_false ((VW.inD_str z ["part", "entry"]).symm.trans c)⟩
  rintro env S4 ⟨rfl, d8, x8⟩
  have hq8 := d8.pool
  have hc : z = "join" ∨ z = "joining" := by
    have e : z = "leaf" ∨ z = "bough" ∨ z = "moved" ∨ z = "put" ∨ z = "take" ∨ z = "part" ∨ z = "entry" ∨ z = "less" ∨ z = "gone" ∨ z = "join" ∨ z = "joining" ∨ z = "lowering" := by simpa [words, drawWords] using hz
    rcases e with rfl | rfl | rfl | rfl | rfl | rfl | rfl | rfl | rfl | rfl | rfl | rfl
    · exact absurd (by simp) x4
    · exact absurd (by simp) x4
    · exact absurd (by simp) x5
    · exact absurd rfl x7
    · exact absurd (by simp) x6
    · exact absurd (by simp) x8
    · exact absurd (by simp) x8
    · exact absurd (by simp) x6
    · exact absurd (by simp) x5
    · exact .inl rfl
    · exact .inr rfl
    · exact absurd (by simp) x5
  walk_at "v"
  intro v20 G20 b_20 e20
  obtain ⟨k0_20, k9_20⟩ := b_20
  have b0_20 : IB v20 := ⟨by omega, by omega⟩
  have dr20 := d8.trans e20
  have hq20_ := dr20.pool
  walk_at "v"
  intro v21 G21 b_21 e21
  have b0_21 : IB v21 := b_21.2
  have n0_21 : 0 ≤ v21 := b_21.1
  have dr21 := dr20.trans e21
  have hq21_ := dr21.pool
  walk_at "v"
  intro v22 G22 b_22 e22
  have b0_22 : IB v22 := b_22.2
  have n0_22 : 0 ≤ v22 := b_22.1
  have dr22 := dr21.trans e22
  have hq22_ := dr22.pool
  walk_at "v"
  intro v23 G23 b_23 e23
  have b0_23 : IB v23 := b_23.2
  have n0_23 : 0 ≤ v23 := b_23.1
  have dr23 := dr22.trans e23
  have hq23_ := dr23.pool
  walk_at "v"
  refine k _ (.str z :: [.int v20, .int v21, .int v22, .int v23]) _ dr23 rfl ?_ (form_sm (ns := [v20, v21, v22, v23]) hz (by simp) (fun n hn => by simp only [List.mem_cons, List.not_mem_nil, or_false] at hn; rcases hn with rfl | rfl | rfl | rfl; all_goals assumption))
  refine form_of (ks := [.key, .num, .num, .num]) ?_ ?_ ?_ rfl ?_
  · rcases hc with rfl | rfl <;> decide +kernel
  · rcases hc with rfl | rfl <;> decide +kernel
  · rcases hc with rfl | rfl <;> decide +kernel
  · show (keyD (.int v20) && (numD (.int v21) && (numD (.int v22) && (numD (.int v23) && true)))) = true
    rw [keyD_of k0_20 k9_20, numD_of n0_21, numD_of n0_22, numD_of n0_23]; rfl

/-! ### xs == [], xs != []: a list of any items beside an empty one; t == (), t != () -/
section
variable {X : Cx} {F0 : Hp}
def rEqL0 (K : PySem.W.Frag) : R2 := fun x y H Q => ∃ a b xs, x = .ref a ∧ y = .ref b ∧ SqL K H a xs ∧ SqL K H b [] ∧ Q (.bl (decide (xs = []))) H
def rNeL0 (K : PySem.W.Frag) : R2 := fun x y H Q => ∃ a b xs, x = .ref a ∧ y = .ref b ∧ SqL K H a xs ∧ SqL K H b [] ∧ Q (.bl (!decide (xs = []))) H
theorem op_eqL0 (hu : X.A.units + 64 < cLine) : OpR X (compareOp .Eq) (rEqL0 X.K) := by
  intro pins s σ H x y v u Q I rx ry h
  obtain ⟨a, b, xs, rfl, rfl, ha, hb, q⟩ := h
  cases rx
  cases ry
  obtain ⟨its, r1, p1, _⟩ := I.list ha
  obtain ⟨its2, r2, p2, _⟩ := I.list hb
  cases r2
  cases r1 with
  | nil => exact SeqAt.RcAt.lists (e := fun _ => true) p1.isList p2.isList rfl (by omega) (fun j h1 h2 => absurd h2 (by simp)) X.prog X.w _ _ ⟨.bl true, H, I, rfl, q⟩
  | cons c t => exact SeqAt.RcAt.lists_lengths p1.isList p2.isList (by simp) (by omega) X.prog X.w _ _ ⟨.bl false, H, I, rfl, q⟩
theorem op_neL0 (hu : X.A.units + 64 < cLine) : OpR X (compareOp .NotEq) (rNeL0 X.K) := by
  intro pins s σ H x y v u Q I rx ry h
  obtain ⟨a, b, xs, rfl, rfl, ha, hb, q⟩ := h
  cases rx
  cases ry
  obtain ⟨its, r1, p1, _⟩ := I.list ha
  obtain ⟨its2, r2, p2, _⟩ := I.list hb
  cases r2
  cases r1 with
  | nil => exact SeqAt.RcNeAt.lists (e := fun _ => true) p1.isList p2.isList rfl (by omega) (fun j h1 h2 => absurd h2 (by simp)) X.prog X.w _ _ ⟨.bl false, H, I, rfl, q⟩
  | cons c t => exact SeqAt.RcNeAt.lists_lengths p1.isList p2.isList (by simp) (by omega) X.prog X.w _ _ ⟨.bl true, H, I, rfl, q⟩
def dEqL0 : VW.R2D := fun x y S P => ∃ ds, VW.SeqL S x ds ∧ VW.SeqL S y [] ∧ P (.bl ds.isEmpty) S
def dNeL0 : VW.R2D := fun x y S P => ∃ ds, VW.SeqL S x ds ∧ VW.SeqL S y [] ∧ P (.bl (!ds.isEmpty)) S
theorem emp_eq {F : Hp} {xs : List V} {ds : List VW.D} (h : VW.VdAll K F xs ds) : decide (xs = []) = ds.isEmpty := by cases h <;> simp
instance : VW.UpR K F0 (rEqL0 K) dEqL0 := ⟨fun {v u x y H Q F S P} r hv hu ⟨ds, e1, e2, p⟩ le => by
  obtain ⟨a, xs, rfl, hq, hx⟩ := e1.at r hv
  obtain ⟨b, ys, rfl, hq2, hy⟩ := e2.at r hu
  cases hy
  exact ⟨a, b, xs, rfl, rfl, hq, hq2, by rw [emp_eq hx]; exact le _ _ _ _ _ p (Same.refl _) r (.bl _)⟩⟩
instance : VW.UpR K F0 (rNeL0 K) dNeL0 := ⟨fun {v u x y H Q F S P} r hv hu ⟨ds, e1, e2, p⟩ le => by
  obtain ⟨a, xs, rfl, hq, hx⟩ := e1.at r hv
  obtain ⟨b, ys, rfl, hq2, hy⟩ := e2.at r hu
  cases hy
  exact ⟨a, b, xs, rfl, rfl, hq, hq2, by rw [emp_eq hx]; exact le _ _ _ _ _ p (Same.refl _) r (.bl _)⟩⟩
def dEqT0 : VW.R2D := fun x y S P => ∃ ds, x = .tup ds ∧ y = .tup [] ∧ P (.bl ds.isEmpty) S
def dNeT0 : VW.R2D := fun x y S P => ∃ ds, x = .tup ds ∧ y = .tup [] ∧ P (.bl (!ds.isEmpty)) S
instance : VW.UpR K F0 (rEqT0 K) dEqT0 := ⟨fun {v u x y H Q F S P} r hv hu ⟨ds, e1, e2, p⟩ le => by
  subst e1; subst e2
  obtain ⟨a, xs, rfl, hq, hx⟩ := VW.tup_at r hv
  obtain ⟨b, ys, rfl, hq2, hy⟩ := VW.tup_at r hu
  cases hy
  exact ⟨a, b, xs, rfl, rfl, hq, hq2, by rw [emp_eq hx]; exact le _ _ _ _ _ p (Same.refl _) r (.bl _)⟩⟩
instance : VW.UpR K F0 (rNeT0 K) dNeT0 := ⟨fun {v u x y H Q F S P} r hv hu ⟨ds, e1, e2, p⟩ le => by
  subst e1; subst e2
  obtain ⟨a, xs, rfl, hq, hx⟩ := VW.tup_at r hv
  obtain ⟨b, ys, rfl, hq2, hy⟩ := VW.tup_at r hu
  cases hy
  exact ⟨a, b, xs, rfl, rfl, hq, hq2, by rw [emp_eq hx]; exact le _ _ _ _ _ p (Same.refl _) r (.bl _)⟩⟩
end

/-! ### the law's own tests of keys and records -/
theorem pyAll_len : ∀ {xs : List VW.D} {ps : List PyData}, VW.pyAll xs = some ps → ps.length = xs.length
  | [], ps, h => by rw [VW.pyAll] at h; cases h; rfl
  | x :: r, ps, h => by
    rw [VW.pyAll] at h
    cases e1 : VW.py x with
    | none => rw [e1] at h; cases h
    | some p =>
      cases e2 : VW.pyAll r with
      | none => rw [e1, e2] at h; cases h
      | some qs => rw [e1, e2] at h; cases h; exact congrArg (· + 1) (pyAll_len e2)
theorem pyAll_cons {x : VW.D} {r : List VW.D} {ps : List PyData} (h : VW.pyAll (x :: r) = some ps) : ∃ p qs, ps = p :: qs ∧ VW.py x = some p ∧ VW.pyAll r = some qs := by
  rw [VW.pyAll] at h
  cases e1 : VW.py x with
  | none => rw [e1] at h; cases h
  | some p =>
    cases e2 : VW.pyAll r with
    | none => rw [e1, e2] at h; cases h
    | some qs => rw [e1, e2] at h; cases h; exact ⟨p, qs, rfl, rfl, rfl⟩
theorem pyAll_at : ∀ {xs : List VW.D} {ps : List PyData} {i : Nat} {x : VW.D}, VW.pyAll xs = some ps → xs[i]? = some x → ∃ p, ps[i]? = some p ∧ VW.py x = some p
  | [], _, _, _, _, e => by simp at e
  | y :: r, ps, 0, x, h, e => by
    obtain ⟨p, qs, rfl, h1, h2⟩ := pyAll_cons h
    simp at e; subst e; exact ⟨p, rfl, h1⟩
  | y :: r, ps, i + 1, x, h, e => by
    obtain ⟨p, qs, rfl, h1, h2⟩ := pyAll_cons h
    obtain ⟨p', e1, e2⟩ := pyAll_at (i := i) (x := x) h2 (by simpa using e)
    exact ⟨p', by simpa using e1, e2⟩
inductive PyV : VW.D → PyData → Prop
  | non : PyV .non .none
  | bl (b : Bool) : PyV (.bl b) (.bool b)
  | int (i : Int) : PyV (.int i) (.int i)
  | str (z : Str) : PyV (.str z) (.str z)
  | lst {xs : List VW.D} {ps : List PyData} : VW.pyAll xs = some ps → PyV (.lst xs) (.list ps)
  | tup {xs : List VW.D} {ps : List PyData} : VW.pyAll xs = some ps → PyV (.tup xs) (.tuple ps)
theorem pyV {x : VW.D} {d : PyData} (h : VW.py x = some d) : PyV x d := by
  cases x <;> rw [VW.py] at h
  case non => cases h; exact .non
  case bl b => cases h; exact .bl b
  case int b => cases h; exact .int b
  case str b => cases h; exact .str b
  case lst xs =>
    cases e : VW.pyAll xs with
    | none => rw [e] at h; cases h
    | some ps => rw [e] at h; cases h; exact .lst e
  case tup xs =>
    cases e : VW.pyAll xs with
    | none => rw [e] at h; cases h
    | some ps => rw [e] at h; cases h; exact .tup e
  all_goals first | cases h | simp_all
theorem tup_of {d : VW.D} {rs : List PyData} (h : VW.py d = some (.tuple rs)) : ∃ ys, d = .tup ys ∧ VW.pyAll ys = some rs := by
  cases pyV h with
  | tup e => exact ⟨_, rfl, e⟩

/-! ### data that are small, as values -/
def G (n k : Nat) (x : VW.D) : Prop := ∃ p, VW.py x = some p ∧ Sm n k p
def GA (n k : Nat) (xs : List VW.D) : Prop := ∃ ps, VW.pyAll xs = some ps ∧ SmAll n k ps
theorem G.mono {n k n' k' : Nat} {x : VW.D} (h : G n k x) (hn : n ≤ n') (hk : k ≤ k') : G n' k' x := let ⟨p, e, s⟩ := h; ⟨p, e, s.mono hn hk⟩
theorem GA.mono {n k n' k' : Nat} {x : List VW.D} (h : GA n k x) (hn : n ≤ n') (hk : k ≤ k') : GA n' k' x := let ⟨p, e, s⟩ := h; ⟨p, e, s.mono hn hk⟩
theorem GA.nil {k : Nat} : GA 0 k [] := ⟨[], by rw [VW.pyAll], SmAll.nil.mono (Nat.le_refl _) (Nat.zero_le _)⟩
theorem GA.cons {a b k : Nat} {x : VW.D} {xs : List VW.D} (h : G a k x) (t : GA b k xs) : GA (a + 1 + b) k (x :: xs) := by
  obtain ⟨p, e, s⟩ := h
  obtain ⟨ps, e2, s2⟩ := t
  exact ⟨p :: ps, by rw [VW.pyAll, e, e2]; rfl, SmAll.cons s s2⟩
theorem GA.inv {a k : Nat} {x : VW.D} {xs : List VW.D} (h : GA a k (x :: xs)) : ∃ a1 a2, a1 + 1 + a2 ≤ a ∧ G a1 k x ∧ GA a2 k xs := by
  obtain ⟨ps, e, s⟩ := h
  obtain ⟨p, qs, rfl, h1, h2⟩ := pyAll_cons e
  obtain ⟨s1, s2, s3, s4, s5⟩ := s
  simp only [PyData.leavesShortAll, PyData.showableAll, PyData.weightAll, PyData.depthAll, PyData.canLayAll0, Bool.and_eq_true] at s1 s2 s3 s4 s5
  exact ⟨p.weight, PyData.weightAll qs, by omega, ⟨p, h1, s1.1, s2.1, Nat.le_refl _, by omega, s5.1⟩, ⟨qs, h2, s1.2, s2.2, Nat.le_refl _, by omega, s5.2⟩⟩
theorem GA.len {k : Nat} : ∀ {xs : List VW.D} {a : Nat}, GA a k xs → xs.length ≤ a
  | [], _, _ => Nat.zero_le _
  | x :: xs, a, h => by
    obtain ⟨a1, a2, h1, _, h3⟩ := h.inv
    have := h3.len
    rw [List.length_cons]; omega
theorem GA.app {k : Nat} : ∀ {xs ys : List VW.D} {a b : Nat}, GA a k xs → GA b k ys → GA (a + b) k (xs ++ ys)
  | [], ys, a, b, _, h => h.mono (by omega) (Nat.le_refl _)
  | x :: xs, ys, a, b, h, g => by
    obtain ⟨a1, a2, h1, h2, h3⟩ := h.inv
    exact (GA.cons h2 (h3.app g)).mono (by omega) (Nat.le_refl _)
theorem GA.take {k : Nat} : ∀ {xs : List VW.D} {a : Nat} (j : Nat), GA a k xs → GA a k (xs.take j)
  | [], a, j, h => by rw [List.take_nil]; exact h
  | x :: xs, a, 0, h => by rw [List.take_zero]; exact GA.nil.mono (Nat.zero_le _) (Nat.le_refl _)
  | x :: xs, a, j + 1, h => by
    obtain ⟨a1, a2, h1, h2, h3⟩ := h.inv
    rw [List.take_succ_cons]
    exact (GA.cons h2 (h3.take j)).mono (by omega) (Nat.le_refl _)
theorem GA.drop {k : Nat} : ∀ {xs : List VW.D} {a : Nat} (j : Nat), GA a k xs → GA a k (xs.drop j)
  | [], a, j, h => by rw [List.drop_nil]; exact h
  | x :: xs, a, 0, h => by rw [List.drop_zero]; exact h
  | x :: xs, a, j + 1, h => by
    obtain ⟨a1, a2, h1, h2, h3⟩ := h.inv
    rw [List.drop_succ_cons]
    exact (h3.drop j).mono (by omega) (Nat.le_refl _)
theorem GA.rev {k : Nat} : ∀ {xs : List VW.D} {a : Nat}, GA a k xs → GA a k xs.reverse
  | [], a, h => h
  | x :: xs, a, h => by
    obtain ⟨a1, a2, h1, h2, h3⟩ := h.inv
    rw [List.reverse_cons]
    exact (h3.rev.app (GA.cons h2 (GA.nil (k := k)))).mono (by omega) (Nat.le_refl _)
theorem GA.mem {k : Nat} : ∀ {xs : List VW.D} {a : Nat} {x : VW.D}, GA a k xs → x ∈ xs → G a k x
  | y :: xs, a, x, h, hx => by
    obtain ⟨a1, a2, h1, h2, h3⟩ := h.inv
    rcases List.mem_cons.mp hx with rfl | hx
    · exact h2.mono (by omega) (Nat.le_refl _)
    · exact (h3.mem hx).mono (by omega) (Nat.le_refl _)
theorem G.tup {n k : Nat} {xs : List VW.D} (h : GA n k xs) : G n (k + 1) (.tup xs) := by
  obtain ⟨ps, e, s⟩ := h
  exact ⟨.tuple ps, by rw [VW.py, e]; rfl, Sm.tup s⟩
theorem G.lst {n k : Nat} {xs : List VW.D} (h : GA n k xs) : G n (k + 1) (.lst xs) := by
  obtain ⟨ps, e, s⟩ := h
  refine ⟨.list ps, by rw [VW.py, e]; rfl, ?_, ?_, ?_, ?_, by rw [PyData.canLay0]; exact s.cl⟩
  · simp only [PyData.leavesShort]; exact s.ls
  · simp only [PyData.showable]; exact s.sh
  · simp only [PyData.weight]; exact s.wt
  · have := s.dp; simp only [PyData.depth]; omega
theorem G.un {n k : Nat} {xs : List VW.D} (h : G n k (.tup xs)) : GA n k xs := by
  obtain ⟨p, e, s⟩ := h
  obtain ⟨ps, e2⟩ : ∃ ps, p = .tuple ps := by cases pyV e; exact ⟨_, rfl⟩
  subst e2
  obtain ⟨ys, e3, e4⟩ := tup_of e
  cases e3
  obtain ⟨s1, s2, s3, s4, s5⟩ := s
  simp only [PyData.leavesShort, PyData.showable, PyData.weight, PyData.depth, PyData.canLay0] at s1 s2 s3 s4 s5
  exact ⟨ps, e4, s1, s2, s3, by omega, s5⟩
theorem G.int {k : Nat} {i : Int} (h : IB i) : G 120 k (.int i) := ⟨_, by rw [VW.py], (Sm.int h).mono (Nat.le_refl _) (Nat.zero_le _)⟩
theorem G.non {k : Nat} : G 120 k .non := ⟨_, by rw [VW.py], Sm.non.mono (Nat.zero_le _) (Nat.zero_le _)⟩
theorem G.bl {k : Nat} (b : Bool) : G 120 k (.bl b) := ⟨_, by rw [VW.py], by refine ⟨?_, ?_, ?_, ?_, rfl⟩ <;> simp [PyData.leavesShort, PyData.showable, PyData.weight, PyData.depth]⟩
theorem G.str {k : Nat} {z : Str} (h : (PyData.str z).leavesShort 40 = true) (hz : z.cps.size ≤ 120) (hs : (PyData.str z).canLay0 = true := by first | assumption | (rw [PyData.canLay0]; decide +kernel)) : G 120 k (.str z) := ⟨_, by rw [VW.py], (Sm.str h hs).mono hz (Nat.zero_le _)⟩
/-- an item of a list at a drawn place -/
theorem drawn_item {xs : List VW.D} {r : Int} (h0 : 0 ≤ r) (h1 : r < xs.length) : ∃ x, atI xs r = some x ∧ x ∈ xs := by
  obtain ⟨n, rfl⟩ : ∃ n : Nat, r = (n : Int) := ⟨r.toNat, by omega⟩
  have hn : n < xs.length := by omega
  exact ⟨xs[n], atI_nat (List.getElem?_eq_getElem hn), List.getElem_mem hn⟩
theorem cutD_ga {n k : Nat} {xs : List VW.D} (h : GA n k xs) (i j : Option Int) : GA n k (VW.cutD xs i j) := by
  unfold VW.cutD
  exact (h.drop _).take _
theorem cutD_len (xs : List VW.D) (i j : Option Int) : (VW.cutD xs i j).length ≤ xs.length := by
  unfold VW.cutD
  rw [List.length_take, List.length_drop]; omega
theorem big {n : Nat} (h : n ≤ 1000000) : n ≤ sizeLine := Nat.le_trans h (by rw [sizeLine_eq]; decide)
theorem ga_ins {n m k : Nat} {xs : List VW.D} {y : VW.D} (h : GA n k xs) (hy : G m k y) (j : Nat) : GA (n + (m + 1)) k (xs.take j ++ [y] ++ xs.drop j) := by
  induction xs generalizing n j with
  | nil => rw [List.take_nil, List.drop_nil]; exact (GA.cons hy GA.nil).mono (by omega) (Nat.le_refl _)
  | cons x xs ih =>
    cases j with
    | zero => exact (GA.cons hy h).mono (by omega) (Nat.le_refl _)
    | succ j =>
      obtain ⟨a1, a2, h1, h2, h3⟩ := h.inv
      rw [List.take_succ_cons, List.drop_succ_cons]
      exact (GA.cons h2 (ih h3 j)).mono (by omega) (Nat.le_refl _)
theorem cutD_last {xs : List VW.D} {x : VW.D} : VW.cutD (xs ++ [x]) none (some (-1)) = xs := by
  unfold VW.cutD
  rw [HT.sIx_none]
  have : HT.sIx (xs ++ [x]).length (xs ++ [x]).length (some (-1)) = xs.length := by
    show (if (-1 : Int) < 0 then ((-1 : Int) + ((xs ++ [x]).length : Int)).toNat else min (-1 : Int).toNat (xs ++ [x]).length) = _
    rw [if_pos (by decide), List.length_append, List.length_singleton]; omega
  rw [this, List.drop_zero, Nat.sub_zero, List.take_left' rfl]
theorem G.dp {n k : Nat} {x : VW.D} (h : G n k x) : Dp60 k x := let ⟨p, e, sm⟩ := h; ⟨p, e, sm.dp⟩
theorem G.ok {n k : Nat} {x : VW.D} (h : G n k x) (hk : k ≤ 60) : VW.okP (VW.py x) = true := h.dp.ok hk
/-- what a text of a thing needs -/
structure Rp (x : VW.D) (d : PyData) : Prop where
  py : VW.py x = some d
  sh : d.showable = true
  nd : d.hasDict = false
  dp : d.depth ≤ 60
  ln : d.shown.length ≤ 16000000
theorem G.rp {x : VW.D} {n k : Nat} (h : G n k x) (hn : n ≤ 300000) (hk : k ≤ 60) : ∃ d, Rp x d := by
  obtain ⟨d, e, sm⟩ := h
  refine ⟨d, e, sm.sh, hasDict_py e, Nat.le_trans sm.dp hk, ?_⟩
  have h1 := PyData.shown_le 40 (by decide) d sm.ls
  have h2 : (40 + 2) * d.weight ≤ (40 + 2) * 300000 := Nat.mul_le_mul_left _ (Nat.le_trans sm.wt hn)
  omega

theorem least_or (rm : List (Int × VW.D)) : ∀ n : Nat, (∀ j : Nat, j < n → (VW.getI rm (j : Int)).isSome = true) ∨ ∃ k, k < n ∧ VW.LeastI rm k
  | 0 => .inl fun j h => absurd h (Nat.not_lt_zero j)
  | n + 1 => by
    rcases least_or rm n with h | ⟨k, h1, h2⟩
    · cases e : VW.getI rm (n : Int) with
      | none => exact .inr ⟨n, Nat.lt_succ_self n, e, h⟩
      | some v =>
        refine .inl fun j hj => ?_
        by_cases c : j = n
        · rw [c, e]; rfl
        · exact h j (by omega)
    · exact .inr ⟨k, by omega, h2⟩
theorem least_ex (rm : List (Int × VW.D)) : ∃ k, k ≤ rm.length ∧ VW.LeastI rm k := by
  rcases least_or rm (rm.length + 1) with h | ⟨k, h1, h2⟩
  · have := VW.least_leI h; omega
  · exact ⟨k, by omega, h2⟩
def freeF (rm : List (Int × VW.D)) : VW.D → Option VW.D
  | .int i => if (VW.getI rm i).isSome = true then none else some (.int i)
  | _ => none
theorem least_first {rm : List (Int × VW.D)} {k N : Nat} (h : VW.LeastI rm k) (hk : k < N) : atI (((List.range N).map fun i => VW.D.int ((0 : Int) + (i : Nat))).filterMap (freeF rm)) (0 : Int) = some (.int (k : Int)) := by
  have e : List.range N = List.range k ++ (k :: (List.range (N - k - 1)).map (fun i => k + 1 + i)) := by
    apply List.ext_getElem
    · simp; omega
    · intro i h1 h2
      rw [List.getElem_range]
      by_cases c : i < k
      · rw [List.getElem_append_left (by simpa using c)]; simp
      · rw [List.getElem_append_right (by simpa using c)]
        by_cases c2 : i = k
        · subst c2; simp
        · rw [List.getElem_cons]; simp; split <;> omega
  rw [e, List.map_append, List.filterMap_append]
  have e1 : ((List.range k).map fun i => VW.D.int ((0 : Int) + (i : Nat))).filterMap (freeF rm) = [] := by
    rw [List.filterMap_eq_nil_iff]
    intro a ha
    obtain ⟨i, hi, rfl⟩ := List.mem_map.mp ha
    show (if (VW.getI rm ((0 : Int) + (i : Nat))).isSome = true then none else some _) = none
    rw [Int.zero_add, if_pos (h.2 i (List.mem_range.mp hi))]
  rw [e1, List.nil_append, List.map_cons, List.filterMap_cons]
  have e2 : freeF rm (.int ((0 : Int) + (k : Nat))) = some (.int (k : Int)) := by
    show (if (VW.getI rm ((0 : Int) + (k : Nat))).isSome = true then none else some _) = _
    rw [Int.zero_add, h.1]; rfl
  rw [e2]
  exact atI_nat (j := 0) rfl

/-! ### a deed at the store's slots, and at the law's own dict -/
def deed (rm hm : List (Int × VW.D)) (w : Int) (d o r : PyData) (u : VW.D) (k : Nat) : List VW.D × List (Int × VW.D) :=
  if w ≠ 0 ∧ inI hm d = false then ([.str "slot", .str d.shown], hm)
  else if (w = 0 ∨ w = 3) ∧ inI rm r = false then ([.str "room", .str r.shown], hm)
  else if w = 0 then ([.str "told", .int k], VW.putI hm k u)
  else match d with
    | .int i => match VW.getI hm i with
      | some v => if w = 1 then ([.str "told", v], hm) else if w = 2 then ([.str "told", v], VW.dropI hm i) else if isI v o = true then ([.str "told", .bl true], VW.putI hm i u) else ([.str "told", .bl false], hm)
      | none => ([], hm)
    | _ => ([], hm)
section
variable {rm hm : List (Int × VW.D)} {w : Int} {d o r : PyData} {u : VW.D} {k : Nat}
theorem deed_slot (h : w ≠ 0) (g : inI hm d = false) : deed rm hm w d o r u k = ([.str "slot", .str d.shown], hm) := by unfold deed; rw [if_pos ⟨h, g⟩]
theorem deed_room0 (h : w = 0) (g : inI rm r = false) : deed rm hm w d o r u k = ([.str "room", .str r.shown], hm) := by unfold deed; rw [if_neg (fun z => z.1 h), if_pos ⟨.inl h, g⟩]
theorem deed_new (h : w = 0) (g : inI rm r = true) : deed rm hm w d o r u k = ([.str "told", .int k], VW.putI hm k u) := by
  unfold deed; rw [if_neg (fun z => z.1 h), if_neg (fun z => by rw [g] at z; cases z.2), if_pos h]
theorem deed_room3 (h : w = 3) (g : inI hm d = true) (g2 : inI rm r = false) : deed rm hm w d o r u k = ([.str "room", .str r.shown], hm) := by
  unfold deed; rw [if_neg (fun z => by rw [g] at z; cases z.2), if_pos ⟨.inr h, g2⟩]
theorem deed_load {i : Int} {v : VW.D} (h : w = 1) (i0 : 0 ≤ i) (g : VW.getI hm i = some v) : deed rm hm w (.int i) o r u k = ([.str "told", v], hm) := by
  have e : inI hm (.int i) = true := by show (decide (0 ≤ i) && (VW.getI hm i).isSome) = true; rw [g, decide_eq_true i0]; rfl
  unfold deed; rw [if_neg (fun z => by rw [e] at z; cases z.2), if_neg (fun z => by omega), if_neg (by omega)]
  show (match VW.getI hm i with | some v => _ | none => _) = _
  rw [g]; show (if w = 1 then _ else _) = _; rw [if_pos h]
theorem deed_drop {i : Int} {v : VW.D} (h : w = 2) (i0 : 0 ≤ i) (g : VW.getI hm i = some v) : deed rm hm w (.int i) o r u k = ([.str "told", v], VW.dropI hm i) := by
  have e : inI hm (.int i) = true := by show (decide (0 ≤ i) && (VW.getI hm i).isSome) = true; rw [g, decide_eq_true i0]; rfl
  unfold deed; rw [if_neg (fun z => by rw [e] at z; cases z.2), if_neg (fun z => by omega), if_neg (by omega)]
  show (match VW.getI hm i with | some v => _ | none => _) = _
  rw [g]; show (if w = 1 then _ else _) = _; rw [if_neg (by omega), if_pos h]
theorem deed_swap {i : Int} {v : VW.D} (h : w = 3) (i0 : 0 ≤ i) (g : VW.getI hm i = some v) (g2 : inI rm r = true) : deed rm hm w (.int i) o r u k = if isI v o = true then ([.str "told", .bl true], VW.putI hm i u) else ([.str "told", .bl false], hm) := by
  have e : inI hm (.int i) = true := by show (decide (0 ≤ i) && (VW.getI hm i).isSome) = true; rw [g, decide_eq_true i0]; rfl
  unfold deed; rw [if_neg (fun z => by rw [e] at z; cases z.2), if_neg (fun z => by rw [g2] at z; cases z.2), if_neg (by omega)]
  show (match VW.getI hm i with | some v => _ | none => _) = _
  rw [g]; show (if w = 1 then _ else _) = _; rw [if_neg (by omega), if_neg (by omega)]
end
/-- the heads are numbers -/
def Hd (hm : List (Int × VW.D)) : Prop := ∀ i v, VW.getI hm i = some v → ∃ m : Int, v = .int m ∧ 0 ≤ m
def spDone (A : Adr) : VW.SpD := VW.sp5 fun x y z u v S P _ => ∃ p n r h rm hm w d o ρ, x = .ref p ∧ Sto A.c_Store S p n r h rm hm ∧ y = .int w ∧ 0 ≤ w ∧ w ≤ 3 ∧ Rp z d ∧ Rp u o ∧ Rp v ρ ∧ hm.length < 64 ∧ Hd hm ∧
  ∃ k, VW.LeastI hm k ∧ P (.lst (deed rm hm w d o ρ v k).1) (VW.sup S h (.dK (VW.iK (deed rm hm w d o ρ v k).2)))
theorem ok_done (T : Txt w K mg A) : GD.FnOkG P w K mg base 7 A.a_done A.d_done ["_law_store", "_law_way", "_law_thing", "_law_old", "_law_room"] (VW.upSp K (spDone A)) := by
  refine GD.okG T.F_done sc_done (VW.upSp.len VW.sp5_len) (fun cdv A' outer s H vs Q E hg hr h => ?_)
  obtain ⟨F, S, ds, P', PE, rh, hv, ⟨x1, x2, x3, x4, x5, rfl, h⟩, lv, lx⟩ := h
  haveI : VW.XLe K F E PE := ⟨lx⟩
  have hu := hu_of hr
  refine ⟨_, (pss_cons (ps_set (i := 5) sc_done.nd rfl (Or.inl rfl) pe_non)
      (pss_cons (VW.ps_tryV (Wout := VW.noW) rfl rfl VW.takesN (fun W pn xe tk po => viaS (pss_one (ps_if (pt_cmpR op_eq (pv 1) pe_int (nomark _))
      (pss_one (ps_set (i := 5) sc_done.nd rfl (Or.inl rfl) (VW.pe_kp (pe_lst (pa_cons pe_str (pa_cons (VW.pe_methW (pv 0) T.cl_Store T.me_Store_new_slot (ok_Store_new_slot T) (hr.mono (by decide)) T.b_Store_new_slot .nil tk (pa_cons (pv 4) pa_nil)) pa_nil))))))
      (pss_one (ps_if (pt_cmpR op_eq (pv 1) pe_int (nomark _))
      (pss_one (ps_set (i := 5) sc_done.nd rfl (Or.inl rfl) (VW.pe_kp (pe_lst (pa_cons pe_str (pa_cons (VW.pe_methW (pv 0) T.cl_Store T.me_Store_load (ok_Store_load T) (hr.mono (by decide)) T.b_Store_load .nil tk (pa_cons (pv 2) pa_nil)) pa_nil))))))
      (pss_one (ps_if (pt_cmpR op_eq (pv 1) pe_int (nomark _))
      (pss_one (ps_set (i := 5) sc_done.nd rfl (Or.inl rfl) (VW.pe_kp (pe_lst (pa_cons pe_str (pa_cons (VW.pe_methW (pv 0) T.cl_Store T.me_Store_drop (ok_Store_drop T) (hr.mono (by decide)) T.b_Store_drop .nil tk (pa_cons (pv 2) pa_nil)) pa_nil))))))
      (pss_one (ps_set (i := 5) sc_done.nd rfl (Or.inl rfl) (VW.pe_kp (pe_lst (pa_cons pe_str (pa_cons (VW.pe_methW (pv 0) T.cl_Store T.me_Store_swap (ok_Store_swap T) (hr.mono (by decide)) T.b_Store_swap .nil tk (pa_cons (pv 2) (pa_cons (pv 3) (pa_cons (pv 4) pa_nil)))) pa_nil)))))))))))) (by first | rfl | (dsimp only [Cx.tr]; done) | (dsimp only [Cx.tr]; rfl))) (MX.HdsM.named (i := 6) sc_done.nd rfl rfl ⟨rfl, by decide, Or.inl T.mg_NoSlot⟩ (fun a oe cls d pn hz hf => viaS (pss_one (ps_set (i := 5) sc_done.nd rfl (Or.inl rfl) (VW.pe_kp (pe_lst (pa_cons pe_str (pa_cons (pe_callB (VW.call_reprA hg hr.units) (by rfl) T.n_repr (by decide +kernel) (pa_cons (pe_xf T.ow_NoSlot.xf T.no_NoSlot_slot hz hf (pv 6)) pa_nil)) pa_nil)))))) (by first | rfl | (dsimp only [Cx.suite]; done) | (dsimp only [Cx.suite]; rfl))) (MX.HdsM.named (i := 6) sc_done.nd rfl rfl ⟨rfl, by decide, Or.inl T.mg_NoRoom⟩ (fun a oe cls d pn hz hf => viaS (pss_one (ps_set (i := 5) sc_done.nd rfl (Or.inl rfl) (VW.pe_kp (pe_lst (pa_cons pe_str (pa_cons (pe_callB (VW.call_reprA hg hr.units) (by rfl) T.n_repr (by decide +kernel) (pa_cons (pe_xf T.ow_NoRoom.xf T.no_NoRoom_room hz hf (pv 6)) pa_nil)) pa_nil)))))) (by first | rfl | (dsimp only [Cx.suite]; done) | (dsimp only [Cx.suite]; rfl))) MX.HdsM.nil)))
      (pss_one (ps_ret (pv 5))))), ?_⟩
  try dsimp only [cxOf, Cx.nox, Cx.wish, List.map]
  refine VW.body_up rh hv lv ?_
  obtain ⟨p, n, r, h, rm, hm, w, d, o, ρ, rfl, st, rfl, w0, w3, hz, hu, hv, hl, hd, kk, lk, k⟩ := h
  have cl := T.cl_Store; have n1 := T.no_Store_own_most; have n2 := T.no_Store_own_rooms; have n3 := T.no_Store_own_heads
  have fm := sfD_most n r h; have fr := sfD_rooms n r h; have fh := sfD_heads n r h
  have a1 := st.ap; have a2 := st.ar; have a3 := st.ah
  have hp := hz.py; have hp2 := hu.py; have hp3 := hv.py
  have noP : (sfD n r h).lookup ("new_slot" : Str) = none := sfD_no _ _ _ (by decide +kernel) (by decide +kernel) (by decide +kernel)
  have noA : (sfD n r h).lookup ("load" : Str) = none := sfD_no _ _ _ (by decide +kernel) (by decide +kernel) (by decide +kernel)
  have noL : (sfD n r h).lookup ("drop" : Str) = none := sfD_no _ _ _ (by decide +kernel) (by decide +kernel) (by decide +kernel)
  have noW : (sfD n r h).lookup ("swap" : Str) = none := sfD_no _ _ _ (by decide +kernel) (by decide +kernel) (by decide +kernel)
  walk_at "v"
  refine ⟨fun F1 b => ?_⟩
  have to : ∀ res hm', deed rm hm w d o ρ x5 kk = (res, hm') → P' (.lst res) (VW.sup S h (.dK (VW.iK hm'))) := fun res hm' e => by
    rw [e] at k; exact k
  have same : ∀ res, deed rm hm w d o ρ x5 kk = (res, hm) → P' (.lst res) S := fun res h => by
    have := to res hm h
    rwa [VW.sup_self a3] at this
  walk_at "v"
  have t1 := T.te_NoSlot; have t2 := T.tx_NoRoom_NoSlot; have t3 := T.te_NoRoom
  have hps : VW.pyS S x3 = some d := pyS_of hp
  have hps5 : VW.pyS S x5 = some ρ := pyS_of hp3
  obtain ⟨_, z1, z2, z3, z4⟩ := hz
  obtain ⟨_, y1, y2, y3, y4⟩ := hv
  have lk' : ∀ (f : Str) (v : VW.D), List.lookup f [(f, v)] = some v := fun f v => VW.look_eq
  have lkR := lk' "room" x5
  have lkS := lk' "slot" x3
  with_reducible refine by2 (fun c => ?_) (fun c => ?_)
  · have c : w = 0 := of_decide_eq_true c
    have hl' : hm.length < 100000 := by omega
    walk_at "v"
    refine ⟨fun c1 => ?_, fun c1 k2 hk2 => ?_⟩
    · walk_at "v"
      refine ⟨fun _ F2 y => ?_⟩
      walk_at "v"
      exact same _ (deed_room0 c c1)
    · obtain rfl := lk.uniq hk2
      walk_at "v"
      exact to _ _ (deed_new c c1)
  · have c : ¬ w = 0 := of_decide_eq_false c
    walk_at "v"
    with_reducible refine by2 (fun c2 => ?_) (fun c2 => ?_)
    · have c2 : w = 1 := of_decide_eq_true c2
      walk_at "v"
      refine ⟨fun i v e h0 hv => ?_, fun c1 => ?_⟩
      · subst e
        walk_at "v"
        exact same _ (deed_load c2 h0 hv)
      · walk_at "v"
        refine ⟨fun _ F2 y => ?_⟩
        walk_at "v"
        exact same _ (deed_slot c c1)
    · have c2 : ¬ w = 1 := of_decide_eq_false c2
      walk_at "v"
      with_reducible refine by2 (fun c3 => ?_) (fun c3 => ?_)
      · have c3 : w = 2 := of_decide_eq_true c3
        walk_at "v"
        refine ⟨fun i v e h0 hv => ?_, fun c1 => ?_⟩
        · subst e
          walk_at "v"
          exact to _ _ (deed_drop c3 h0 hv)
        · walk_at "v"
          refine ⟨fun _ F2 y => ?_⟩
          walk_at "v"
          exact same _ (deed_slot c c1)
      · have c3 : ¬ w = 2 := of_decide_eq_false c3
        have c4 : w = 3 := by omega
        have hl' : hm.length < 100000 := by omega
        have hI : ∀ i v, VW.getI hm i = some v → ∃ m, v = .int m := fun i v e => let ⟨m, q, _⟩ := hd i v e; ⟨m, q⟩
        walk_at "v"
        refine ⟨fun c1 => ?_, fun c1 c5 => ?_, fun i v e gv c1 c5 c6 => ?_, fun i v e gv c1 c5 c6 => ?_⟩
        · walk_at "v"
          refine ⟨fun _ F2 y => ?_⟩
          walk_at "v"
          exact same _ (deed_slot c c1)
        · walk_at "v"
          refine ⟨fun _ F2 y => ?_⟩
          walk_at "v"
          exact same _ (deed_room3 c4 c1 c5)
        · subst e
          obtain ⟨j, v', e1, i0, gv'⟩ := inI_int c1
          cases e1
          walk_at "v"
          exact same _ ((deed_swap c4 i0 gv c5).trans (by rw [c6]; rfl))
        · subst e
          obtain ⟨j, v', e1, i0, gv'⟩ := inI_int c1
          cases e1
          walk_at "v"
          exact to _ _ ((deed_swap c4 i0 gv c5).trans (by rw [c6]; rfl))
def spDue : VW.SpD := VW.sp6 fun x y z u v t S P _ => ∃ a rm hm N w d o ρ, x = .ref a ∧ S a = some (.dK (VW.iK hm)) ∧ y = .int N ∧ (∀ i : Int, inI rm (.int i) = (decide (0 ≤ i) && decide (i < N))) ∧ z = .int w ∧ 0 ≤ w ∧ w ≤ 3 ∧ Rp u d ∧ Rp v o ∧ Rp t ρ ∧ hm.length < 64 ∧ Hd hm ∧ (hm.map (·.1)).Nodup ∧
  (∀ m : Int, 0 ≤ m → VW.eqP (some (.int m)) (some o) = isI (.int m) o) ∧ VW.okP (some o) = true ∧
  ∃ k, VW.LeastI hm k ∧ P (.lst (deed rm hm w d o ρ t k).1) (VW.sup S a (.dK (VW.iK (deed rm hm w d o ρ t k).2)))
theorem ok_is_slot (T : Txt w K mg A) : FnOk P w K mg base CX0 1 A.a_is_slot A.d_is_slot ["_law_thing"] (VW.upSp K (VW.sp1 fun x S P _ => ∃ d, VW.py x = some d ∧ P (.bl (numD d)) S)) := by
  refine T.F_is_slot.ok sc_is_slot (VW.upSp.len VW.sp1_len) (fun cdv A' outer s H vs Q E hr h => ?_)
  obtain ⟨F, S, ds, P', PE, rh, hv, ⟨x1, rfl, h⟩, lv, lx⟩ := h
  haveI : VW.XLe K F E PE := ⟨lx⟩
  have hu := hu_of hr
  refine ⟨_, (pss_one (ps_ret (pe_and (pe_callB VW.call_isA (by rfl) T.n_isinstance (by decide +kernel) (pa_cons (pv 0) (pa_cons (pe_bltn (v := V.ty "int") (by rfl) T.n_int (by decide +kernel) rfl) pa_nil))) (pe_and (pe_not (pe_callB VW.call_isA (by rfl) T.n_isinstance (by decide +kernel) (pa_cons (pv 0) (pa_cons (pe_bltn (v := V.ty "bool") (by rfl) T.n_bool (by decide +kernel) rfl) pa_nil)))) (pe_one (pe_cmpR op_ge (pv 0) pe_int (nomark _))))))), ?_⟩
  try dsimp only [cxOf, Cx.nox, Cx.wish, List.map]
  refine VW.body_up rh hv lv ?_
  obtain ⟨d, hd, k⟩ := h
  cases d with
  | int i =>
    obtain rfl := py_int hd
    walk_at "v"
    exact k
  | _ =>
    have hv := pyV hd
    cases hv
    all_goals first | (walk_at "v"; exact k) | skip
theorem ok_due (T : Txt w K mg A) : GD.FnOkG P w K mg base 3 A.a_due A.d_due ["_law_own", "_law_many", "_law_way", "_law_thing", "_law_old", "_law_room"] (VW.upSp K (spDue)) := by
  refine GD.okG T.F_due sc_due (VW.upSp.len VW.sp6_len) (fun cdv A' outer s H vs Q E hg hr h => ?_)
  obtain ⟨F, S, ds, P', PE, rh, hv, ⟨x1, x2, x3, x4, x5, x6, rfl, h⟩, lv, lx⟩ := h
  haveI : VW.XLe K F E PE := ⟨lx⟩
  have hu := hu_of hr
  refine ⟨_, (pss_cons (ps_if (PW.pt (pw_and (pt_cmpR op_gt (pv 2) pe_int (nomark _)) (pw_and1 (PW.pt (pw_or (pt_not (pt_val (pe_call (ok_is_slot T) (hr.mono (by decide)) rfl T.m_is_slot T.F_is_slot.kp T.b_is_slot .nil VW.pass0F (pa_cons (pv 3) pa_nil)))) (pw_or1 (pt_cmp (pc_dnotin hu (pv 3) (pv 0)))))))))
      (pss_one (ps_ret (VW.pe_kp (pe_lst (pa_cons pe_str (pa_cons (pe_callB (VW.call_reprA hg hr.units) (by rfl) T.n_repr (by decide +kernel) (pa_cons (pv 3) pa_nil)) pa_nil))))))
      pss_nil)
      (pss_cons (ps_if (PW.pt (pw_and (pt_cmpR op_in_seq (pv 2) (VW.pe_kp (pe_lst (pa_cons pe_int (pa_cons pe_int pa_nil)))) rfl) (pw_and1 (pt_not (PW.pt (pw_and (pt_val (pe_call (ok_is_slot T) (hr.mono (by decide)) rfl T.m_is_slot T.F_is_slot.kp T.b_is_slot .nil VW.pass0F (pa_cons (pv 5) pa_nil))) (pw_and1 (pt_cmpR op_lt (pv 5) (pv 1) (nomark _)))))))))
      (pss_one (ps_ret (VW.pe_kp (pe_lst (pa_cons pe_str (pa_cons (pe_callB (VW.call_reprA hg hr.units) (by rfl) T.n_repr (by decide +kernel) (pa_cons (pv 5) pa_nil)) pa_nil))))))
      pss_nil)
      (pss_cons (ps_if (pt_cmpR op_eq (pv 2) pe_int (nomark _))
      (pss_cons (ps_set (i := 6) sc_due.nd rfl (Or.inl rfl) (pe_ix ix_list (VW.pe_kp (pe_lc (own := [("_law_k", 7)]) rfl sc_due.nd (pi_range1 rfl T.n_range (pa_cons (pe_op op_add (pe_callB VW.call_lenA (by rfl) T.n_len PySem.boot_len (pa_cons (pv 0) pa_nil)) pe_int) pa_nil)) (blkOk_by (own := [("_law_k", 7)]) (N := n_due) (sc := defScope s_due) (by decide +kernel)) (fun _ _ _ _ _ => viaG (pg_name (i := 7) sc_due.nd rfl (Or.inl rfl)) (by first | rfl | (dsimp only [Cx.blk]; done) | (dsimp only [Cx.blk]; rfl))) (fun _ _ _ _ _ => viaT (pts_one (pt_cmp (pc_dnotin hu (pv 7) (pv 0)))) (by first | rfl | (dsimp only [Cx.blk]; done) | (dsimp only [Cx.blk]; rfl))) (fun _ _ _ _ _ => viaE (pv 7) (by first | rfl | (dsimp only [Cx.blk]; done) | (dsimp only [Cx.blk]; rfl))))) pe_int (fun _ _ => rfl)))
      (pss_cons (ps_dput hu (pv 0) (pv 6) (pv 5) rfl)
      (pss_one (ps_ret (VW.pe_kp (pe_lst (pa_cons pe_str (pa_cons (pv 6) pa_nil))))))))
      pss_nil)
      (pss_cons (ps_if (pt_cmpR op_eq (pv 2) pe_int (nomark _))
      (pss_one (ps_ret (VW.pe_kp (pe_lst (pa_cons pe_str (pa_cons (pe_dget hu (pv 0) (pv 3) (fun _ _ => rfl)) pa_nil))))))
      pss_nil)
      (pss_cons (ps_if (pt_cmpR op_eq (pv 2) pe_int (nomark _))
      (pss_one (ps_ret (VW.pe_kp (pe_lst (pa_cons pe_str (pa_cons (pe_dpop1 (pv 0) (pv 3) ⟨rfl, rfl, rfl, rfl⟩) pa_nil))))))
      pss_nil)
      (pss_cons (ps_if (pt_cmpR (VW.op_nePl hr.units) (pe_dget hu (pv 0) (pv 3) (fun _ _ => rfl)) (pv 4) (nomark _))
      (pss_one (ps_ret (VW.pe_kp (pe_lst (pa_cons pe_str (pa_cons pe_bl pa_nil))))))
      pss_nil)
      (pss_cons (ps_dput hu (pv 0) (pv 3) (pv 5) rfl)
      (pss_one (ps_ret (VW.pe_kp (pe_lst (pa_cons pe_str (pa_cons pe_bl pa_nil))))))))))))), ?_⟩
  try dsimp only [cxOf, Cx.nox, Cx.wish, List.map]
  refine VW.body_up rh hv lv ?_
  obtain ⟨a, rm, hm, N, w, d, o, ρ, rfl, ho, rfl, hN, rfl, w0, w3, hz, hu, hv, hl, hd, nd, hO, okO, kk, lk, k⟩ := h
  have hp := hz.py; have hp2 := hu.py; have hp3 := hv.py
  have hps : VW.pyS S x4 = some d := pyS_of hp
  have hps5 : VW.pyS S x5 = some o := pyS_of hp2
  have hps6 : VW.pyS S x6 = some ρ := pyS_of hp3
  obtain ⟨_, z1, z2, z3, z4⟩ := hz
  obtain ⟨_, y1, y2, y3, y4⟩ := hv
  have to : ∀ res hm', deed rm hm w d o ρ x6 kk = (res, hm') → P' (.lst res) (VW.sup S a (.dK (VW.iK hm'))) := fun res hm' e => by
    rw [e] at k; exact k
  have same : ∀ res, deed rm hm w d o ρ x6 kk = (res, hm) → P' (.lst res) S := fun res h => by
    have := to res hm h
    rwa [VW.sup_self ho] at this
  have c0 : w = 0 ∨ w = 1 ∨ w = 2 ∨ w = 3 := by omega
  rcases c0 with rfl | rfl | rfl | rfl
  · walk_at "v"
    cases c : numD ρ with
    | false =>
      walk_at "v"
      exact same _ (deed_room0 rfl (inI_no c))
    | true =>
      obtain ⟨i, rfl, i0⟩ := num_int c
      obtain rfl := py_int hp3
      have ei := hN i
      rw [decide_eq_true i0, Bool.true_and] at ei
      walk_at "v"
      with_reducible refine by2 (fun c2 => ?_) (fun c2 => ?_)
      · have c2 : decide (i < N) = false := by simpa using c2
        rw [c2] at ei
        walk_at "v"
        exact same _ (deed_room0 rfl ei)
      · have c2 : decide (i < N) = true := by simpa using c2
        rw [c2] at ei
        walk_at "v"
        have hf := least_first lk (show kk < hm.length + 1 by have := VW.least_leI lk.2; omega)
        have hl' := sizeL (n := hm.length) (by omega)
        rw [VW.iK_len]
        have e1 : ((hm.length : Int) + 1).toNat = hm.length + 1 := by omega
        refine ⟨⟨by omega, by omega⟩, ?_⟩
        refine VW.lcD_pureR ((List.range (hm.length + 1)).map fun i => VW.D.int ((0 : Int) + (i : Nat))) (freeF hm) (by simp [VW.wR, e1]) (fun i d hi e => by have e : d = .int (0 + i) := e; have hi : i < ((hm.length : Int) + 1).toNat := hi; rw [e1] at hi; rw [List.getElem?_map, List.getElem?_range hi, e]; rfl) (by simp; exact sizeL (by omega)) (fun _ _ _ => trivial) ?_ ?_
        · intro d1 S3 Zy Zn hd1 hS hy hn
          obtain ⟨j, hj, rfl⟩ := List.mem_map.mp hd1
          have ho3 := hS _ _ ho
          walk_at "v"
          cases g : VW.getI hm (0 + (j : Int)) with
          | none =>
            walk_at "v"
            exact hy _ (by show (if (VW.getI hm (0 + (j : Int))).isSome = true then none else some _) = _; rw [g]; rfl)
          | some v =>
            walk_at "v"
            exact hn (by show (if (VW.getI hm (0 + (j : Int))).isSome = true then none else some _) = _; rw [g]; rfl)
        · walk_at "v"
          exact to _ _ (deed_new rfl ei)
  · walk_at "v"
    cases c : numD d with
    | false =>
      walk_at "v"
      exact same _ (deed_slot (by decide) (inI_no c))
    | true =>
      obtain ⟨i, rfl, i0⟩ := num_int c
      obtain rfl := py_int hp
      have ei : inI hm (.int i) = (decide (0 ≤ i) && (VW.getI hm i).isSome) := rfl
      rw [decide_eq_true i0, Bool.true_and] at ei
      walk_at "v"
      cases c2 : VW.getI hm i with
      | none =>
        rw [c2] at ei
        walk_at "v"
        exact same _ (deed_slot (by decide) ei)
      | some v =>
        rw [c2] at ei
        walk_at "v"
        exact same _ (deed_load rfl i0 c2)
  · walk_at "v"
    cases c : numD d with
    | false =>
      walk_at "v"
      exact same _ (deed_slot (by decide) (inI_no c))
    | true =>
      obtain ⟨i, rfl, i0⟩ := num_int c
      obtain rfl := py_int hp
      have ei : inI hm (.int i) = (decide (0 ≤ i) && (VW.getI hm i).isSome) := rfl
      rw [decide_eq_true i0, Bool.true_and] at ei
      walk_at "v"
      cases c2 : VW.getI hm i with
      | none =>
        rw [c2] at ei
        walk_at "v"
        exact same _ (deed_slot (by decide) ei)
      | some v =>
        rw [c2] at ei
        walk_at "v"
        exact to _ _ (deed_drop rfl i0 c2)
  · walk_at "v"
    cases c : numD d with
    | false =>
      walk_at "v"
      exact same _ (deed_slot (by decide) (inI_no c))
    | true =>
      obtain ⟨i, rfl, i0⟩ := num_int c
      obtain rfl := py_int hp
      have ei : inI hm (.int i) = (decide (0 ≤ i) && (VW.getI hm i).isSome) := rfl
      rw [decide_eq_true i0, Bool.true_and] at ei
      walk_at "v"
      cases c2 : VW.getI hm i with
      | none =>
        rw [c2] at ei
        walk_at "v"
        exact same _ (deed_slot (by decide) ei)
      | some v =>
        rw [c2] at ei
        walk_at "v"
        cases c5 : numD ρ with
        | false =>
          walk_at "v"
          exact same _ (deed_room3 rfl ei (inI_no c5))
        | true =>
          obtain ⟨j, rfl, j0⟩ := num_int c5
          obtain rfl := py_int hp3
          have ej := hN j
          rw [decide_eq_true j0, Bool.true_and] at ej
          walk_at "v"
          with_reducible refine by2 (fun c6 => ?_) (fun c6 => ?_)
          · have c6 : decide (j < N) = false := by simpa using c6
            rw [c6] at ej
            walk_at "v"
            exact same _ (deed_room3 rfl ei ej)
          · have c6 : decide (j < N) = true := by simpa using c6
            rw [c6] at ej
            obtain ⟨m, rfl, m0⟩ := hd i v c2
            have em : VW.eqP (VW.pyS S (.int m)) (VW.pyS S x5) = isI (.int m) o := by
              rw [hps5, pyS_of (x := .int m) (d := .int m) (by rw [VW.py])]; exact hO m m0
            have ok1 := okP_int S m
            have ok2 : VW.okP (VW.pyS S x5) = true := by rw [hps5]; exact okO
            have hl' := sizeL (n := hm.length) (by omega)
            walk_at "v"
            rw [em]
            cases c7 : isI (.int m) o with
            | false =>
              walk_at "v"
              exact same _ ((deed_swap rfl i0 c2 ej).trans (by rw [c7]; rfl))
            | true =>
              walk_at "v"
              exact to _ _ ((deed_swap rfl i0 c2 ej).trans (by rw [c7]; rfl))

/-- what a drawn thing is -/
def So (d : VW.D) : Prop := d = .non ∨ (∃ i : Int, d = .int i ∧ -1 ≤ i ∧ i ≤ 1000000000000000000000000000000) ∨ (∃ b, d = .bl b) ∨ d = .str "0" ∨ d = .tup [.int 0]
theorem So.g {d : VW.D} (h : So d) : G 200 1 d := by
  rcases h with rfl | ⟨i, rfl, h1, h2⟩ | ⟨b, rfl⟩ | rfl | rfl
  · exact G.non.mono (by decide) (Nat.le_refl _)
  · exact (G.int ⟨by omega, by omega⟩).mono (by decide) (Nat.le_refl _)
  · exact (G.bl b).mono (by decide) (Nat.le_refl _)
  · exact (G.str (by simp only [PyData.leavesShort]; decide +kernel) (by decide +kernel)).mono (by decide) (Nat.le_refl _)
  · exact (G.tup (GA.cons (k := 0) (G.int ⟨by decide, by decide⟩) .nil)).mono (by decide) (Nat.le_refl _)
theorem So.rp {d : VW.D} (h : So d) : ∃ p, Rp d p := h.g.rp (by decide) (by decide)
/-- an old head, as the law hands it in: never a truth -/
def Ol (d : VW.D) : Prop := So d ∧ ∀ b, d ≠ .bl b
theorem Ol.eq {d : VW.D} {o : PyData} (h : Ol d) (ho : VW.py d = some o) (m : Int) (m0 : 0 ≤ m) : VW.eqP (some (.int m)) (some o) = isI (.int m) o := by
  rcases h with ⟨rfl | ⟨i, rfl, h1, h2⟩ | ⟨b, rfl⟩ | rfl | rfl, hb⟩
  · rw [VW.py] at ho; cases ho; show PyData.eqv (.int m) .none = _; simp only [PyData.eqv]; rfl
  · rw [VW.py] at ho; cases ho
    show PyData.eqv (.int m) (.int i) = (decide (0 ≤ i) && decide (m = i))
    simp only [PyData.eqv]
    by_cases c : m = i
    · subst c; simp [m0]
    · simp [c]
  · exact absurd rfl (hb b)
  · rw [VW.py] at ho; cases ho; show PyData.eqv (.int m) (.str "0") = _; simp only [PyData.eqv]; rfl
  · rw [VW.py, VW.pyAll, VW.py, VW.pyAll] at ho; cases ho; show PyData.eqv (.int m) (.tuple [.int 0]) = _; simp only [PyData.eqv]; rfl
def spSome : VW.SpD := VW.sp2 fun x y S P _ => ∃ q n, x = .ref q ∧ VW.PoolS S q ∧ y = .int n ∧ 0 ≤ n ∧ n ≤ 1000 ∧ ∀ d S', VW.Drawn S q S' → So d → P d S'
theorem ok_some (T : Txt w K mg A) : FnOk P w K mg base CX0 2 A.a_some A.d_some ["_law_pool_here", "_law_size"] (VW.upSp K (spSome)) := by
  refine T.F_some.ok sc_some (VW.upSp.len VW.sp2_len) (fun cdv A' outer s H vs Q E hr h => ?_)
  obtain ⟨F, S, ds, P', PE, rh, hv, ⟨x1, x2, rfl, h⟩, lv, lx⟩ := h
  haveI : VW.XLe K F E PE := ⟨lx⟩
  have hu := hu_of hr
  refine ⟨_, (pss_cons (ps_if (pt_cmpR op_eq (pe_call (ok_take T) (hr.mono (by decide)) rfl T.m_take T.F_take.kp T.b_take .nil VW.pass0F (pa_cons (pv 0) (pa_cons pe_int pa_nil))) pe_int (nomark _))
      (pss_one (ps_ret (pe_ix ix_list (VW.pe_kp (pe_lst (pa_cons pe_non (pa_cons (pe_un un_neg pe_int) (pa_cons pe_bl (pa_cons pe_str (pa_cons (pe_op op_pow pe_int pe_int) (pa_cons (pe_tup (pa_cons pe_int pa_nil)) (pa_cons pe_bl (pa_cons (pv 1) pa_nil)))))))))) (pe_call (ok_take T) (hr.mono (by decide)) rfl T.m_take T.F_take.kp T.b_take .nil VW.pass0F (pa_cons (pv 0) (pa_cons pe_int pa_nil))) (fun _ _ => rfl))))
      pss_nil)
      (pss_one (ps_ret (pe_call (ok_take T) (hr.mono (by decide)) rfl T.m_take T.F_take.kp T.b_take .nil VW.pass0F (pa_cons (pv 0) (pa_cons (pe_op op_add (pv 1) pe_int) pa_nil)))))), ?_⟩
  try dsimp only [cxOf, Cx.nox, Cx.wish, List.map]
  refine VW.body_up rh hv lv ?_
  obtain ⟨q, n, rfl, hq, rfl, n0, n1, k⟩ := h
  walk_at "v"
  intro r1 S1 r10 r11 d1
  have hq1 := d1.pool
  walk_at "v"
  with_reducible refine by2 (fun c => ?_) (fun c => ?_)
  · walk_at "v"
    intro r2 S2 r20 r21 d2
    obtain ⟨x, hx, hm⟩ := drawn_item (xs := [VW.D.non, .int (-1), .bl true, .str "0", .int (10 ^ (30 : Int).toNat), .tup [.int 0], .bl false, .int n]) r20 (by simpa using r21)
    walk_at "v"
    refine k _ _ (d1.trans d2) ?_
    have e30 : (10 : Int) ^ (30 : Int).toNat = 1000000000000000000000000000000 := by decide
    simp only [List.mem_cons, List.not_mem_nil, or_false] at hm
    rcases hm with rfl | rfl | rfl | rfl | rfl | rfl | rfl | rfl
    · exact .inl rfl
    · exact .inr (.inl ⟨_, rfl, by decide, by decide⟩)
    · exact .inr (.inr (.inl ⟨_, rfl⟩))
    · exact .inr (.inr (.inr (.inl rfl)))
    · exact .inr (.inl ⟨_, rfl, by rw [e30]; decide, by rw [e30]; decide⟩)
    · exact .inr (.inr (.inr (.inr rfl)))
    · exact .inr (.inr (.inl ⟨_, rfl⟩))
    · exact .inr (.inl ⟨_, rfl, by omega, by omega⟩)
  · walk_at "v"
    intro r2 S2 r20 r21 d2
    walk_at "v"
    exact k _ _ (d1.trans d2) (.inr (.inl ⟨_, rfl, by omega, by omega⟩))
def spLaw (K : PySem.W.Frag) : Sp := fun vs H Q _ => ∃ (a : Addr) (ns : List Int), vs = [.ref a] ∧ SqL K H a (ns.map V.int) ∧ ns.length ≤ 63 ∧ ∀ H', Q (.bl true) H'
theorem vd_ints {F : Hp} : ∀ ns : List Int, VW.VdAll K F (ns.map V.int) (ns.map VW.D.int)
  | [] => .nil
  | n :: r => .cons (.int n) (vd_ints r)
theorem most_rounds (L : Int) : (if (if (60 : Int) < L then 60 else L) > 1 then (if (60 : Int) < L then 60 else L) else 1).toNat ≤ 60 := by
  split <;> (try split) <;> omega
/-- a record, drawn -/
def Rc (d : VW.D) : Prop := ∃ xs p, d = .tup xs ∧ VW.pyAll xs = some p ∧ recD (.tuple p) = true ∧ Dp60 6 (.tup xs)
theorem rec_py {d : VW.D} (h : Rc d) : ∃ p, VW.py d = some p ∧ recD p = true ∧ p.depth ≤ 6 := by
  obtain ⟨xs, p, rfl, h1, h2, h3⟩ := h
  refine ⟨.tuple p, by rw [VW.py, h1]; rfl, h2, ?_⟩
  obtain ⟨d, e, hd⟩ := h3
  rw [VW.py, h1] at e
  cases e
  exact hd
/-- the rooms, numbered -/
def rowsI (ds : List VW.D) : List (Int × VW.D) := ds.zipIdx.map fun q => (((q.2 : Nat) : Int), q.1)
theorem rowsI_len (ds : List VW.D) : (rowsI ds).length = ds.length := by simp [rowsI]
theorem rowsI_get (ds : List VW.D) (i : Int) : VW.getI (rowsI ds) i = if 0 ≤ i then ds[i.toNat]? else none := by
  have gen : ∀ (ds : List VW.D) (k : Nat) (i : Int), VW.getI ((ds.zipIdx k).map fun q => (((q.2 : Nat) : Int), q.1)) i = if (k : Int) ≤ i then ds[(i - k).toNat]? else none := by
    intro ds
    induction ds with
    | nil => intro k i; simp [VW.getI_nil]
    | cons x xs ih =>
      intro k i
      rw [List.zipIdx_cons, List.map_cons, VW.getI_cons, ih (k + 1) i]
      by_cases c : ((k : Nat) : Int) = i
      · rw [if_pos c, if_pos (by omega)]
        have : (i - k).toNat = 0 := by omega
        rw [this]; rfl
      · rw [if_neg c]
        by_cases c2 : (k : Int) ≤ i
        · rw [if_pos c2, if_pos (by omega)]
          have : (i - k).toNat = (i - ((k + 1 : Nat) : Int)).toNat + 1 := by omega
          rw [this, List.getElem?_cons_succ]
        · rw [if_neg c2, if_neg (by omega)]
  have := gen ds 0 i
  simpa [rowsI] using this
theorem rowsI_least (ds : List VW.D) : VW.LeastI (rowsI ds) ds.length := by
  refine ⟨by rw [rowsI_get]; simp, fun j hj => by rw [rowsI_get, if_pos (by omega)]; simp [hj]⟩
theorem rowsI_put (ds : List VW.D) (d : VW.D) : VW.putI (rowsI ds) (ds.length : Nat) d = rowsI (ds ++ [d]) := by
  rw [VW.putI_new (rowsI_least ds).1]
  unfold rowsI
  rw [List.zipIdx_append, List.map_append]
  simp
theorem rowsI_nodup (ds : List VW.D) : ((rowsI ds).map (·.1)).Nodup := by
  have e : (rowsI ds).map (·.1) = (List.range ds.length).map fun i : Nat => (i : Int) := by
    unfold rowsI
    rw [List.map_map]
    apply List.ext_getElem
    · simp
    · intro i h1 h2; simp
  rw [e]
  exact List.pairwise_map.mpr (List.nodup_range.imp fun h z => h (by omega))
theorem rowsI_in (ds : List VW.D) (i : Int) : inI (rowsI ds) (.int i) = (decide (0 ≤ i) && decide (i < ds.length)) := by
  show (decide (0 ≤ i) && (VW.getI (rowsI ds) i).isSome) = _
  rw [rowsI_get]
  by_cases c : 0 ≤ i
  · rw [if_pos c, decide_eq_true c]
    by_cases c2 : i < ds.length
    · have : i.toNat < ds.length := by omega
      simp [c2, this]
    · have : ¬ i.toNat < ds.length := by omega
      simp [c2]; omega
  · simp [c]
theorem rowsI_key (ds : List VW.D) : VW.iK (rowsI ds) = (ds.zipIdx 0).map fun q => ((.inl (q.2 : Nat) : Key), q.1) := by
  unfold VW.iK rowsI
  rw [List.map_map]; rfl
theorem rowsI_apart (ds : List VW.D) : List.Pairwise (fun (p q : Key × VW.D) => p.1 ≠ q.1) (([] : List (Key × VW.D)) ++ VW.iK (rowsI ds)) := by
  rw [List.nil_append]
  exact List.pairwise_map.mp (show ((VW.iK (rowsI ds)).map (·.1)).Pairwise (· ≠ ·) from VW.iK_nodup (rowsI_nodup ds))
theorem rowsI_ok {ds : List VW.D} {m : List (Int × VW.D)} (h : ∀ d ∈ ds, Rc d) (hp : m.Perm (rowsI ds)) : VW.okDic (VW.iK m) := fun p hm => by
  unfold VW.iK at hm
  obtain ⟨q, hq, rfl⟩ := List.mem_map.mp hm
  have hq := hp.mem_iff.mp hq
  unfold rowsI at hq
  obtain ⟨z, hz, rfl⟩ := List.mem_map.mp hq
  obtain ⟨xs, p, e, _, _, h3⟩ := h z.1 (List.fst_mem_of_mem_zipIdx hz)
  show VW.okP (VW.py z.1) = true
  rw [e]
  exact h3.ok (by decide)
/-- its text is short -/
def Tx (d : PyData) : Prop := (PyData.str d.shown).leavesShort 40 = true ∧ d.shown.cps.size ≤ 9000
theorem So.tx {x : VW.D} {p : PyData} (h : So x) (e : VW.py x = some p) : Tx p := by
  obtain ⟨p', e', sm⟩ := h.g
  rw [e] at e'; cases e'
  refine ⟨?_, ?_⟩
  · rcases h with rfl | ⟨i, rfl, h1, h2⟩ | ⟨b, rfl⟩ | rfl | rfl
    · rw [VW.py] at e; cases e; simp only [PyData.leavesShort, PyData.shown]; decide +kernel
    · rw [VW.py] at e; cases e
      simp only [PyData.leavesShort, PyData.shown]
      rw [List.all_eq_true]
      intro c hc
      rw [decide_eq_true_eq]
      by_cases z : c < 16 ^ 8
      · exact z
      · exact absurd hc (PyProof.Rows.int_text_free' c ⟨by omega, by omega⟩ i)
    · rw [VW.py] at e; cases e; cases b <;> (simp only [PyData.leavesShort, PyData.shown]; decide +kernel)
    · rw [VW.py] at e; cases e; simp only [PyData.leavesShort, PyData.shown]; decide +kernel
    · rw [VW.py, VW.pyAll, VW.py, VW.pyAll] at e; cases e; simp only [PyData.leavesShort, PyData.shown, PyData.shownAll]; decide +kernel
  · have h1 := PyData.shown_le 40 (by decide) p sm.ls
    have h2 : (40 + 2) * p.weight ≤ (40 + 2) * 200 := Nat.mul_le_mul_left _ sm.wt
    have h3 : p.shown.length = p.shown.cps.size := rfl
    omega
/-- a flat thing whose text is short -/
structure Fl (y : VW.D) (q : PyData) : Prop where
  py : VW.py y = some q
  ls : q.leavesShort 40 = true
  sh : q.showable = true
  wt : q.weight ≤ 9000
  dp : q.depth ≤ 1
theorem Fl.int {i : Int} (h : IB i) : Fl (.int i) (.int i) := let s := Sm.int h; ⟨by rw [VW.py], s.ls, s.sh, Nat.le_trans s.wt (by decide), Nat.le_trans s.dp (by decide)⟩
theorem Fl.bl (b : Bool) : Fl (.bl b) (.bool b) := by refine ⟨by rw [VW.py], ?_, ?_, ?_, ?_⟩ <;> simp [PyData.leavesShort, PyData.showable, PyData.weight, PyData.depth]
theorem Fl.tx {d : PyData} (h : Tx d) : Fl (.str d.shown) (.str d.shown) := ⟨by rw [VW.py], h.1, by simp only [PyData.showable], by simp only [PyData.weight]; exact h.2, by simp only [PyData.depth]; decide⟩
theorem rp2 {a : Str} {y : VW.D} {q : PyData} (ha : (PyData.str a).leavesShort 40 = true) (hz : a.cps.size ≤ 100) (h : Fl y q) : ∃ d, Rp (.lst [.str a, y]) d := by
  have e : VW.py (.lst [.str a, y]) = some (.list [.str a, q]) := by rw [VW.py, VW.pyAll, VW.py, VW.pyAll, h.py, VW.pyAll]; rfl
  refine ⟨_, e, ?_, hasDict_py e, ?_, ?_⟩
  · simp only [PyData.showable, PyData.showableAll, h.sh, Bool.and_true]
  · simp only [PyData.depth, PyData.depthAll]; have := h.dp; omega
  · have ls : (PyData.list [.str a, q]).leavesShort 40 = true := by
      have ha' : (PyData.str a).leavesShort 40 = true := ha
      simp only [PyData.leavesShort, PyData.leavesShortAll] at ha' ⊢
      rw [ha', h.ls]; rfl
    have h1 := PyData.shown_le 40 (by decide) _ ls
    have h2 : (PyData.list [.str a, q]).weight ≤ 9300 := by simp only [PyData.weight, PyData.weightAll]; have := h.wt; omega
    have h3 : (40 + 2) * (PyData.list [.str a, q]).weight ≤ (40 + 2) * 9300 := Nat.mul_le_mul_left _ h2
    omega
/-- what stands at the law's own dict -/
structure Hm (hm : List (Int × VW.D)) (i : Nat) : Prop where
  nd : (hm.map (·.1)).Nodup
  le : hm.length ≤ i
  hd : ∀ p ∈ hm, 0 ≤ p.1 ∧ ∃ m : Int, p.2 = .int m ∧ 0 ≤ m ∧ m ≤ 5
theorem Hm.h {hm : List (Int × VW.D)} {i : Nat} (h : Hm hm i) : Hd hm := fun j v e => let ⟨m, q, m0, _⟩ := (h.hd _ (VW.getI_mem e)).2; ⟨m, q, m0⟩
theorem Hm.more {hm : List (Int × VW.D)} {i : Nat} (h : Hm hm i) : Hm hm (i + 1) := ⟨h.nd, Nat.le_succ_of_le h.le, h.hd⟩
theorem Hm.put {hm : List (Int × VW.D)} {i : Nat} (h : Hm hm i) (j m : Int) (j0 : 0 ≤ j) (m0 : 0 ≤ m) (m5 : m ≤ 5) : Hm (VW.putI hm j (.int m)) (i + 1) := by
  refine ⟨VW.putI_nodup h.nd, ?_, ?_⟩
  · cases e : VW.getI hm j with
    | none => rw [VW.putI_len e]; have := h.le; omega
    | some v => rw [VW.putI_over_len (by rw [e]; rfl)]; have := h.le; omega
  · intro p hp
    unfold VW.putI at hp
    split at hp
    · obtain ⟨q, hq, rfl⟩ := List.mem_map.mp hp
      split
      · exact ⟨(h.hd q hq).1, m, rfl, m0, m5⟩
      · exact h.hd q hq
    · rcases List.mem_append.mp hp with hp | hp
      · exact h.hd p hp
      · rw [List.mem_singleton.mp hp]; exact ⟨j0, m, rfl, m0, m5⟩
theorem Hm.deed {rm hm : List (Int × VW.D)} {i k : Nat} {w : Int} {d o r : PyData} {u : VW.D} (h : Hm hm i) (w0 : 0 ≤ w) (w3 : w ≤ 3) (hu : VW.py u = some r) (h5 : ∀ j : Int, inI rm (.int j) = true → j ≤ 5) (hk : k ≤ 100)
    (td : Tx d) (tr : Tx r) : Hm (deed rm hm w d o r u k).2 (i + 1) ∧ ∃ z, Rp (.lst (deed rm hm w d o r u k).1) z := by
  have two : ∀ (a : Str) (y : VW.D) (q : PyData), a ∈ (["slot", "room", "told"] : List Str) → Fl y q → ∃ z, Rp (.lst [.str a, y]) z := fun a y q ha h => by
    have ha : a = "slot" ∨ a = "room" ∨ a = "told" := by simpa using ha
    rcases ha with rfl | rfl | rfl <;> exact rp2 (by simp only [PyData.leavesShort]; decide +kernel) (by decide +kernel) h
  have rn : ¬ inI rm r = false → ∃ m : Int, u = .int m ∧ 0 ≤ m ∧ m ≤ 5 := fun g => by
    have g : inI rm r = true := by cases e : inI rm r with
      | true => rfl
      | false => exact absurd e g
    obtain ⟨j, v, e, j0, _⟩ := inI_int g
    subst e
    exact ⟨j, py_int hu, j0, h5 j g⟩
  have two0 : ∃ z, Rp (.lst []) z := ⟨.list [], by rw [VW.py, VW.pyAll]; rfl, by simp [PyData.showable, PyData.showableAll], by simp [PyData.hasDict, PyData.hasDictAll], by simp [PyData.depth, PyData.depthAll], by decide +kernel⟩
  unfold LawK06.deed
  split
  · exact ⟨h.more, two _ _ _ (by simp) (.tx td)⟩
  · rename_i c1
    split
    · exact ⟨h.more, two _ _ _ (by simp) (.tx tr)⟩
    · rename_i c2
      split
      · rename_i c3
        obtain ⟨m, rfl, m0, m5⟩ := rn (fun z => c2 ⟨.inl c3, z⟩)
        exact ⟨h.put _ _ (by omega) m0 m5, two _ _ _ (by simp) (.int ⟨by omega, by omega⟩)⟩
      · rename_i c3
        split
        · rename_i j
          split
          · rename_i v e
            obtain ⟨j0, m', e', m0', m5'⟩ := h.hd _ (VW.getI_mem e)
            have e' : v = .int m' := e'
            have dv : Fl v (.int m') := by rw [e']; exact .int ⟨by omega, by omega⟩
            split
            · exact ⟨h.more, two _ _ _ (by simp) dv⟩
            · rename_i c4
              split
              · refine ⟨⟨VW.dropI_nodup h.nd, ?_, fun p hp => h.hd p (List.mem_filter.mp hp).1⟩, two _ _ _ (by simp) dv⟩
                show (VW.dropI hm j).length ≤ i + 1
                have := VW.dropI_le hm j; have := h.le; omega
              · rename_i c5
                split
                · by_cases c6 : w = 3
                  · obtain ⟨m, rfl, m0, m5⟩ := rn (fun z => c2 ⟨.inr c6, z⟩)
                    exact ⟨h.put _ _ j0 m0 m5, two _ _ _ (by simp) (.bl _)⟩
                  · omega
                · exact ⟨h.more, two _ _ _ (by simp) (.bl _)⟩
          · exact ⟨h.more, two0⟩
        · exact ⟨h.more, two0⟩
theorem Hm.ok {hm m : List (Int × VW.D)} {i : Nat} (h : Hm hm i) (hp : m.Perm hm) : VW.okDic (VW.iK m) := fun p hm' => by
  unfold VW.iK at hm'
  obtain ⟨q, hq, rfl⟩ := List.mem_map.mp hm'
  obtain ⟨_, j, e, _⟩ := h.hd q (hp.mem_iff.mp hq)
  show VW.okP (VW.py q.2) = true
  rw [e]
  exact ((Dp60.int _).mono (Nat.zero_le 6)).ok (by decide)
theorem ok_law (T : Txt w K mg A) : GD.FnOkG P w K mg base 8 A.a_law A.d_law ["_law_script"] (spLaw K) := by
  refine GD.okG T.F_law sc_law (fun vs H Q E h => by obtain ⟨a, ns, rfl, _⟩ := h; rfl) (fun cdv A' outer s H vs Q E hg hr h => ?_)
  obtain ⟨a, ns, rfl, hS, hns, k⟩ := h
  have hu := hu_of hr
  obtain ⟨u_Store, bd_Store_init, rd_Store_init⟩ := T.bd_Store_init
  refine ⟨_, (pss_cons (ps_set (i := 1) sc_law.nd rfl (Or.inr rfl) (pe_call (ok_pool T) (hr.mono (by decide)) rfl T.m_pool T.F_pool.kp T.b_pool .nil VW.pass0F (pa_cons (pv 0) (pa_cons pe_int pa_nil))))
      (pss_cons (ps_set (i := 2) sc_law.nd rfl (Or.inl rfl) (pe_make0 T.mk_Store (ok_Store_init T) (hr.mono (by decide)) rfl T.mg_Store bd_Store_init (.cons rd_Store_init .nil) passL))
      (pss_cons (ps_set (i := 3) sc_law.nd rfl (Or.inl rfl) (pe_op op_add pe_int (pe_call (ok_take T) (hr.mono (by decide)) rfl T.m_take T.F_take.kp T.b_take .nil VW.pass0F (pa_cons (pv 1) (pa_cons pe_int pa_nil)))))
      (pss_cons (VW.ps_setLcK (i := 4) (own := [("_law_turn", 14)]) rfl sc_law.nd rfl rfl (sw_true rfl rfl rfl (by decide +kernel)) (pi_range1 rfl T.n_range (pa_cons (pv 3) pa_nil)) (blkOk_by (own := [("_law_turn", 14)]) (N := n_law) (sc := defScope s_law) (by decide +kernel)) (fun _ _ _ _ _ => viaG (pg_name (i := 14) sc_law.nd rfl (Or.inl rfl)) (by first | rfl | (dsimp only [Cx.blk]; done) | (dsimp only [Cx.blk]; rfl))) (fun _ _ _ _ _ => viaT pts_nil (by first | rfl | (dsimp only [Cx.blk]; done) | (dsimp only [Cx.blk]; rfl))) (fun _ _ _ _ _ => viaE (pe_call (ok_drawn_record T) (hr.mono (by decide)) rfl T.m_drawn_record T.F_drawn_record.kp T.b_drawn_record .nil VW.pass0F (pa_cons (pv 1) pa_nil)) (by first | rfl | (dsimp only [Cx.blk]; done) | (dsimp only [Cx.blk]; rfl))))
      (pss_cons (ps_for PassesOwn.never rfl (pi_list (pv 4)) (pg_name (i := 5) sc_law.nd rfl (Or.inl rfl))
      (pss_one (ps_expr (pe_meth (pv 2) T.cl_Store T.me_Store_put_in (ok_Store_put_in T) (hr.mono (by decide)) T.b_Store_put_in .nil passL (pa_cons (pv 5) pa_nil)))))
      (pss_cons (ps_set (i := 6) sc_law.nd rfl (Or.inl rfl) pe_dnewK)
      (pss_cons (ps_for PassesOwn.never rfl (pi_range1 rfl T.n_range (pa_cons (pe_callB (VW.call_max2A rfl) (by rfl) T.n_max (by decide +kernel) (pa_cons pe_int (pa_cons (pe_callB (VW.call_min2A rfl) (by rfl) T.n_min (by decide +kernel) (pa_cons (pe_callB VW.call_lenA (by rfl) T.n_len PySem.boot_len (pa_cons (pv 0) pa_nil)) (pa_cons pe_int pa_nil))) pa_nil))) pa_nil)) (pg_name (i := 7) sc_law.nd rfl (Or.inl rfl))
      (pss_cons (ps_set (i := 1) sc_law.nd rfl (Or.inr rfl) (pe_call (ok_pool T) (hr.mono (by decide)) rfl T.m_pool T.F_pool.kp T.b_pool .nil VW.pass0F (pa_cons (pv 0) (pa_cons (pv 7) pa_nil))))
      (pss_cons (ps_set (i := 8) sc_law.nd rfl (Or.inl rfl) (pe_ix ix_list (VW.pe_kp (pe_lst (pa_cons pe_int (pa_cons pe_int (pa_cons pe_int (pa_cons pe_int (pa_cons pe_int (pa_cons pe_int (pa_cons pe_int pa_nil))))))))) (pe_call (ok_take T) (hr.mono (by decide)) rfl T.m_take T.F_take.kp T.b_take .nil VW.pass0F (pa_cons (pv 1) (pa_cons pe_int pa_nil))) (fun _ _ => rfl)))
      (pss_cons (ps_set (i := 9) sc_law.nd rfl (Or.inl rfl) (pe_call (ok_some T) (hr.mono (by decide)) rfl T.m_some T.F_some.kp T.b_some .nil VW.pass0F (pa_cons (pv 1) (pa_cons pe_int pa_nil))))
      (pss_cons (ps_set (i := 10) sc_law.nd rfl (Or.inl rfl) (pe_call (ok_some T) (hr.mono (by decide)) rfl T.m_some T.F_some.kp T.b_some .nil VW.pass0F (pa_cons (pv 1) (pa_cons (pv 3) pa_nil))))
      (VW.cutAt (ps_if (PW.pt (pw_and (pt_cmpR op_eq (pe_call (ok_take T) (hr.mono (by decide)) rfl T.m_take T.F_take.kp T.b_take .nil VW.pass0F (pa_cons (pv 1) (pa_cons pe_int pa_nil))) pe_int (nomark _)) (pw_and1 (pt_val (pe_call (ok_is_slot T) (hr.mono (by decide)) rfl T.m_is_slot T.F_is_slot.kp T.b_is_slot .nil VW.pass0F (pa_cons (pv 9) pa_nil))))))
      (pss_one (ps_set (i := 10) sc_law.nd rfl (Or.inl rfl) (pe_dget2 hu (pv 6) (pv 9) (pv 10) ⟨rfl, rfl, rfl, rfl⟩)))
      pss_nil)
      (VW.cutAt (ps_if (pt_val (pe_callB VW.call_isA (by rfl) T.n_isinstance (by decide +kernel) (pa_cons (pv 10) (pa_cons (pe_bltn (v := V.ty "bool") (by rfl) T.n_bool (by decide +kernel) rfl) pa_nil))))
      (pss_one (ps_set (i := 10) sc_law.nd rfl (Or.inl rfl) pe_str))
      pss_nil)
      (pss_cons (ps_set (i := 11) sc_law.nd rfl (Or.inl rfl) (pe_call (ok_some T) (hr.mono (by decide)) rfl T.m_some T.F_some.kp T.b_some .nil VW.pass0F (pa_cons (pv 1) (pa_cons (pv 3) pa_nil))))
      (pss_cons (ps_set (i := 12) sc_law.nd rfl (Or.inl rfl) (GD.pe_callG hg (ok_due T) (hr.mono (by decide)) rfl T.m_due T.F_due.kp T.b_due .nil (pa_cons (pv 6) (pa_cons (pv 3) (pa_cons (pv 8) (pa_cons (pv 9) (pa_cons (pv 10) (pa_cons (pv 11) pa_nil))))))))
      (pss_cons (ps_if (pt_cmpR op_ne (pe_callB (VW.call_reprA hg hr.units) (by rfl) T.n_repr (by decide +kernel) (pa_cons (GD.pe_callG hg (ok_done T) (hr.mono (by decide)) rfl T.m_done T.F_done.kp T.b_done .nil (pa_cons (pv 2) (pa_cons (pv 8) (pa_cons (pv 9) (pa_cons (pv 10) (pa_cons (pv 11) pa_nil)))))) pa_nil)) (pe_callB (VW.call_reprA hg hr.units) (by rfl) T.n_repr (by decide +kernel) (pa_cons (pv 12) pa_nil)) (nomark _))
      (pss_one (ps_ret pe_bl))
      pss_nil)
      (pss_cons (ps_set (i := 13) sc_law.nd rfl (Or.inl rfl) (pe_meth0 (pv 2) T.cl_Store T.me_Store_heads (ok_Store_heads T) (hr.mono (by decide)) T.b_Store_heads .nil VW.pass0F))
      (pss_cons (ps_if (PW.pt (pw_or (pt_not (pt_val (pe_callB VW.call_isA (by rfl) T.n_isinstance (by decide +kernel) (pa_cons (pv 13) (pa_cons (pe_bltn (v := V.ty "dict") (by rfl) T.n_dict (by decide +kernel) rfl) pa_nil))))) (pw_or (pt_cmpR (VW.op_neKK hr.units65) (pv 13) (pv 6) (nomark _)) (pw_or1 (pt_cmpR (VW.op_neKK hr.units65) (pe_meth0 (pv 2) T.cl_Store T.me_Store_rooms (ok_Store_rooms T) (hr.mono (by decide)) T.b_Store_rooms .nil VW.pass0F) (VW.pe_kd (pe_callTy (VW.call_dicPs rfl) (by rfl) T.n_dict (by decide +kernel) (pa_cons (LZ.pe_listEnum rfl (by rfl) T.n_list (by decide +kernel) (by rfl) T.n_enumerate (pa_cons (pv 4) pa_nil)) pa_nil))) (nomark _))))))
      (pss_one (ps_ret pe_bl))
      pss_nil)
      (pss_one (ps_expr (pe_dclear (pv 13))))))))))))))))
      (pss_one (ps_ret (pe_and (pe_cmpR (VW.op_eqKK hr.units65) (pe_meth0 (pv 2) T.cl_Store T.me_Store_heads (ok_Store_heads T) (hr.mono (by decide)) T.b_Store_heads .nil VW.pass0F) (pv 6) (nomark _)) (pe_one (pe_cmpR op_eq (pe_callB (MX.call_lenO (ok_Store___len__ T) (hr.mono (by decide)) T.b_Store___len__ T.me_Store___len__) (by rfl) T.n_len PySem.boot_len (pa_cons (pv 2) pa_nil)) (pv 3) (nomark _))))))))))))), ?_⟩
  try dsimp only [cxOf, Cx.nox, Cx.wish, List.map]
  have rh : VW.RelH K H H (fun _ => none) H := ⟨Same.refl _, Same.refl _, fun a o e => by cases e⟩
  have hv : VW.VdAll K H [.ref a] [.seq (ns.map VW.D.int)] := .cons (.seq hS (vd_ints ns)) .nil
  refine VW.body_up (P := fun x _ => x = .bl true) rh hv (fun x S F' H' v p _ _ hvv => by subst p; cases hvv; exact k H') ?_
  walk_at "v"
  intro q c s hq hc hs hs2
  have hq0 : VW.PoolS (VW.sup (fun _ => none) q (.lst [.int c, .int s])) q := ⟨c, s, VW.sup_same, hc, hs, hs2⟩
  have mo2 : mostD (.int 4000) = true := by decide
  have pyn : ∀ m : Int, VW.py (.int m) = some (.int m) := fun m => by rw [VW.py]
  walk_at "v"
  intro p hp
  refine ⟨_, _, rfl, p, .int 4000, rfl, VW.sup_same, pyn 4000, fun m e _ r h fr fh nrh => ?_, fun c => by rw [mo2] at c; cases c⟩
  cases e
  have st1 := Sto.made (C := A.c_Store) (n := 4000) (VW.sup_same (S := VW.sup (fun _ => none) q (.lst [.int c, .int s])) (a := p) (o := .ins A.c_Store [])) fr fh nrh
  have hpq : p ≠ q := fun z => by rw [z, VW.sup_same] at hp; cases hp
  refine ⟨rfl, ?_⟩
  have hrq : r ≠ q := fun z => by rw [z, VW.sup_ne hpq.symm, VW.sup_same] at fr; cases fr
  have hhq : h ≠ q := fun z => by rw [z, VW.sup_ne hpq.symm, VW.sup_same] at fh; cases fh
  have hq1 : VW.PoolS (VW.sup (VW.sup (VW.sup (VW.sup (VW.sup (fun _ => none) q (.lst [.int c, .int s])) p (.ins A.c_Store [])) r (.dK [])) h (.dK [])) p (.ins A.c_Store (sfD 4000 r h))) q :=
    ⟨c, s, by rw [VW.sup_ne hpq.symm, VW.sup_ne hhq.symm, VW.sup_ne hrq.symm, VW.sup_ne hpq.symm, VW.sup_same], hc, hs, hs2⟩
  generalize VW.sup (VW.sup (VW.sup (VW.sup (VW.sup (fun _ => none) q (.lst [.int c, .int s])) p (.ins A.c_Store [])) r (.dK [])) h (.dK [])) p (.ins A.c_Store (sfD 4000 r h)) = S1 at st1 hq1
  walk_at "v"
  intro r1 S2 r10 r11 d1
  have hq2 := d1.pool
  have st2 := st1.drawn hq1 d1
  walk_at "v"
  obtain ⟨n, hn⟩ : ∃ n : Nat, 1 + r1 = (n : Int) := ⟨(1 + r1).toNat, by omega⟩
  have n1 : 1 ≤ n := by omega
  have n5 : n ≤ 5 := by omega
  have hn' : (1 + r1).toNat = n := by omega
  refine VW.lcD_drawnR (q := q) ((List.range n).map fun i => VW.D.int ((0 : Int) + (i : Nat))) (fun i acc => acc.length = i ∧ i ≤ n ∧ ∀ d ∈ acc, Rc d) (by simp [VW.wR, hn']) (fun i d hi e => by have e : d = .int (0 + i) := e; have hi : i < (1 + r1).toNat := hi; rw [hn'] at hi; rw [List.getElem?_map, List.getElem?_range hi, e]; rfl) hq2 (fun _ _ _ _ _ => trivial) ⟨rfl, Nat.zero_le _, fun d hd => by cases hd⟩ (fun i acc h => sizeL (by have := h.1; have := h.2.1; omega)) ?_ ?_
  · intro i d acc S Zy Zn hx hacc hqS hS zy zn
    have hi : i < n := by
      have := (List.getElem?_eq_some_iff.mp hx).1
      simpa using this
    walk_at "v"
    intro d' p S3 d3 h1 h2 h3
    refine zy _ _ d3 ⟨by rw [List.length_append, hacc.1]; rfl, hi, fun y hy => ?_⟩
    rcases List.mem_append.mp hy with hy | hy
    · exact hacc.2.2 y hy
    · rw [List.mem_singleton.mp hy]
      refine ⟨_, p, rfl, h1, h2, ?_⟩
      exact (show G 5000 6 _ from ⟨_, by rw [VW.py, h1]; rfl, h3.mono (by decide) (by decide)⟩).dp
  · intro recs S3 hr d3
    have st3 := st2.drawn hq2 d3
    have hlen : recs.length = n := by have := hr.1; simpa using this
    have hrec := hr.2.2
    walk_at "v"
    refine VW.ForD.mk ⟨fun i env S => Wrap (∃ v5, env = [some (.seq (ns.map VW.D.int)), some (.ref q), some (.ref p), some (.int (1 + r1)), some (.lst recs), v5, none, none, none, none, none, none, none, none, none] ∧ Sto A.c_Store S p 4000 r h (rowsI (recs.take i)) []), ?_, fun _ _ _ _ _ => Or.inl rfl, ?_, ?_⟩
    · exact ⟨_, rfl, by rw [List.take_zero]; exact st3⟩
    · rintro i d env S4 hi hd ⟨v5, rfl, st4⟩
      have hd : recs[i]? = some d := hd
      have hi : i < recs.length := (List.getElem?_eq_some_iff.mp hd).1
      obtain ⟨pd, hpd, hrd, _⟩ := rec_py (hrec d (List.mem_of_getElem? hd))
      have cl := T.cl_Store
      have noP : (sfD 4000 r h).lookup ("put_in" : Str) = none := sfD_no _ _ _ (by decide +kernel) (by decide +kernel) (by decide +kernel)
      have a1 := st4.ap
      have tl : (recs.take i).length = i := by rw [List.length_take]; omega
      have rl : (rowsI (recs.take i)).length < 100000 := by rw [rowsI_len, tl]; omega
      walk_at "v"
      refine ⟨fun c1 => (by rw [hrd] at c1; cases c1), fun _ c2 => (by rw [rowsI_len, tl] at c2; omega), fun _ c2 kk hk => ?_⟩
      have ek : kk = i := by
        have := hk.uniq (rowsI_least (recs.take i))
        rw [tl] at this; exact this
      subst ek
      have e2 : VW.putI (rowsI (recs.take kk)) (kk : Nat) d = rowsI (recs.take (kk + 1)) := by
        have := rowsI_put (recs.take kk) d
        rw [tl] at this
        rw [this, List.take_succ, hd]; rfl
      rw [e2]
      have st5 := st4.putR (rm' := rowsI (recs.take (kk + 1)))
      walk_at "v"
      exact ⟨_, rfl, st5⟩
    · rintro env S4 ⟨v5, rfl, st4⟩
      have e : recs.take (VW.wL (VW.D.lst recs) recs).n = recs := List.take_of_length_le (Nat.le_refl _)
      rw [e] at st4
      walk_at "v"
      intro o ho
      have st0 : Sto A.c_Store (VW.sup S4 o (.dK [])) p 4000 r h (rowsI recs) [] := st4.mono (VW.less_sup ho)
      have eo0 : (VW.sup S4 o (.dK [])) o = some (.dK (VW.iK [])) := VW.sup_same
      have npo : p ≠ o := VW.sne_of st4.ap ho
      have nro : r ≠ o := VW.sne_of st4.ar ho
      have nho : h ≠ o := VW.sne_of st4.ah ho
      generalize VW.sup S4 o (.dK []) = S5 at st0 eo0
      walk_at "v"
      refine VW.ForD.mk ⟨fun i env S => Wrap (∃ v1 v5 v7 v8 v9 v10 v11 v12 v13 hm, env = [some (.seq (ns.map VW.D.int)), v1, some (.ref p), some (.int (1 + r1)), some (.lst recs), v5, some (.ref o), v7, v8, v9, v10, v11, v12, v13, none] ∧ Sto A.c_Store S p 4000 r h (rowsI recs) hm ∧ S o = some (.dK (VW.iK hm)) ∧ Hm hm i), ?_, fun _ _ _ _ _ => trivial, ?_, ?_⟩
      · exact ⟨_, _, _, _, _, _, _, _, _, [], rfl, st0, eo0, ⟨List.nodup_nil, Nat.le_refl _, fun p hp => by cases hp⟩⟩
      · rintro i d env S6 hi hd ⟨v1, v5, v7, v8, v9, v10, v11, v12, v13, hm, rfl, st6, eo6, inv⟩
        have e : d = .int (0 + (i : Int)) := hd
        rw [Int.zero_add] at e
        subst e
        have hi60 : i < 60 := by
          exact Nat.lt_of_lt_of_le hi (most_rounds _)
        have hi63 : i ≤ 63 := by omega
        walk_at "v"
        intro q2 c2 s2 hq2' hc2 hs2' hs22
        have hqq : VW.PoolS (VW.sup S6 q2 (.lst [.int c2, .int s2])) q2 := ⟨c2, s2, VW.sup_same, hc2, hs2', hs22⟩
        have st7 := st6.mono (VW.less_sup (u := .lst [.int c2, .int s2]) hq2')
        have noq : o ≠ q2 := VW.sne_of eo6 hq2'
        have eo7 : (VW.sup S6 q2 (.lst [.int c2, .int s2])) o = some (.dK (VW.iK hm)) := by rw [VW.sup_ne noq]; exact eo6
        generalize VW.sup S6 q2 (.lst [.int c2, .int s2]) = S7 at hqq st7 eo7
        walk_at "v"
        intro t1 S8 t10 t11 d8
        have hq8 := d8.pool
        obtain ⟨x, hx, hmm⟩ := drawn_item (xs := [VW.D.int 0, .int 1, .int 2, .int 3, .int 3, .int 3, .int 0]) t10 (by simpa using t11)
        obtain ⟨w, rfl, w0, w3⟩ : ∃ w : Int, x = .int w ∧ 0 ≤ w ∧ w ≤ 3 := by
          simp only [List.mem_cons, List.not_mem_nil, or_false] at hmm
          rcases hmm with rfl | rfl | rfl | rfl | rfl | rfl | rfl <;> exact ⟨_, rfl, by decide, by decide⟩
        walk_at "v"
        intro th S9 d9 hth
        have hq9 := d9.pool
        walk_at "v"
        intro ol S10 d10 hol
        have hq10 := d10.pool
        have st10 := st7.drawn hqq (d8.trans (d9.trans d10))
        have eo10 := (d8.trans (d9.trans d10)).at eo7 noq
        obtain ⟨pd, hpd⟩ := hth.rp
        have hps := hpd.py
        walk_at "v"
        refine ⟨fun env S => Wrap (∃ ol', env = [some (.seq (ns.map VW.D.int)), some (.ref q2), some (.ref p), some (.int (1 + r1)), some (.lst recs), v5, some (.ref o), some (.int i), some (.int w), some th, some ol', v11, v12, v13, none] ∧ VW.Drawn S10 q2 S ∧ So ol'), ?_, ?_⟩
        · walk_at "v"
          intro t3 S11 t30 t31 d11
          have eo11 := d11.at eo10 noq
          walk_at "v"
          with_reducible refine by2 (fun c => ?_) (fun c => ?_)
          · walk_at "v"
            cases c1 : numD pd with
            | false =>
              walk_at "v"
              exact ⟨_, rfl, d11, hol⟩
            | true =>
              obtain ⟨j, rfl, j0⟩ := num_int c1
              obtain rfl := py_int hps
              walk_at "v"
              cases g : VW.getI hm j with
              | none =>
                walk_at "v"
                exact ⟨_, rfl, d11, hol⟩
              | some v =>
                walk_at "v"
                obtain ⟨_, m, e', m0, m5⟩ := inv.hd _ (VW.getI_mem g)
                have e' : v = .int m := e'
                subst e'
                exact ⟨_, rfl, d11, .inr (.inl ⟨m, rfl, by omega, by omega⟩)⟩
          · walk_at "v"
            exact ⟨_, rfl, d11, hol⟩
        rintro env S11 ⟨ol', rfl, d11, hol'⟩
        walk_at "v"
        refine ⟨fun env S => Wrap (∃ ol', env = [some (.seq (ns.map VW.D.int)), some (.ref q2), some (.ref p), some (.int (1 + r1)), some (.lst recs), v5, some (.ref o), some (.int i), some (.int w), some th, some ol', v11, v12, v13, none] ∧ S = S11 ∧ Ol ol'), ?_, ?_⟩
        · rcases hol' with rfl | ⟨j, rfl, h1, h2⟩ | ⟨b, rfl⟩ | rfl | rfl
          · walk_at "v"
            exact ⟨_, rfl, rfl, .inl rfl, fun b e => by cases e⟩
          · walk_at "v"
            exact ⟨_, rfl, rfl, .inr (.inl ⟨j, rfl, h1, h2⟩), fun b e => by cases e⟩
          · walk_at "v"
            exact ⟨_, rfl, rfl, .inr (.inr (.inr (.inl rfl))), fun b e => by cases e⟩
          · walk_at "v"
            exact ⟨_, rfl, rfl, .inr (.inr (.inr (.inl rfl))), fun b e => by cases e⟩
          · walk_at "v"
            exact ⟨_, rfl, rfl, .inr (.inr (.inr (.inr rfl))), fun b e => by cases e⟩
        rintro env S11 ⟨ol', rfl, rfl, hol2⟩
        have hq11 := d11.pool
        have st11 := st10.drawn hq10 d11
        have eo11 := d11.at eo10 noq
        walk_at "v"
        intro room S12 d12 hroom
        have st12 := st11.drawn hq11 d12
        have eo12 := d12.at eo11 noq
        obtain ⟨po, hpo⟩ := hol2.1.rp
        obtain ⟨pr, hpr⟩ := hroom.rp
        have hN : ∀ i : Int, inI (rowsI recs) (.int i) = (decide (0 ≤ i) && decide (i < 1 + r1)) := fun i => by rw [rowsI_in, hlen, hn]
        have hO := hol2.eq hpo.py
        have okO : VW.okP (some po) = true := by rw [← hpo.py]; exact hol2.1.g.ok (by decide)
        obtain ⟨kk, lk0, lk⟩ := least_ex hm
        have le := inv.le; have ind := inv.nd; have ih := inv.h
        have hl63 : hm.length < 64 := by omega
        walk_at "v"
        obtain ⟨inv', rd, hres⟩ := inv.deed (rm := rowsI recs) (d := pd) (o := po) (k := kk) w0 w3 hpr.py (fun j hj => by rw [hN] at hj; simp at hj; omega) (by omega) (hth.tx hps) (hroom.tx hpr.py)
        have st13 : Sto A.c_Store (VW.sup S12 o (.dK (VW.iK (deed (rowsI recs) hm w pd po pr room kk).2))) p 4000 r h (rowsI recs) hm := ⟨by rw [VW.sup_ne npo]; exact st12.ap, by rw [VW.sup_ne nro]; exact st12.ar, by rw [VW.sup_ne nho]; exact st12.ah, st12.rh⟩
        have eo13 : (VW.sup S12 o (.dK (VW.iK (deed (rowsI recs) hm w pd po pr room kk).2))) o = some (.dK (VW.iK (deed (rowsI recs) hm w pd po pr room kk).2)) := VW.sup_same
        generalize VW.sup S12 o (.dK (VW.iK (deed (rowsI recs) hm w pd po pr room kk).2)) = S13 at st13 eo13
        walk_at "v"
        refine ⟨pyS_of hres.py, hres.sh, hres.nd, hres.dp, hres.ln, ?_⟩
        have st14 := st13.putH (hm' := (deed (rowsI recs) hm w pd po pr room kk).2)
        have eo14 : (VW.sup S13 h (.dK (VW.iK (deed (rowsI recs) hm w pd po pr room kk).2))) o = some (.dK (VW.iK (deed (rowsI recs) hm w pd po pr room kk).2)) := by rw [VW.sup_ne nho.symm]; exact eo13
        generalize VW.sup S13 h (.dK (VW.iK (deed (rowsI recs) hm w pd po pr room kk).2)) = S14 at st14 eo14
        generalize (deed (rowsI recs) hm w pd po pr room kk) = dd at st14 eo14 inv' hres ⊢
        obtain ⟨res, hm'⟩ := dd
        have st14 : Sto A.c_Store S14 p 4000 r h (rowsI recs) hm' := st14
        have eo14 : S14 o = some (.dK (VW.iK hm')) := eo14
        have inv' : Hm hm' (i + 1) := inv'
        have hres : Rp (.lst res) rd := hres
        have hps14 : VW.pyS S14 (.lst res) = some rd := pyS_of hres.py
        obtain ⟨_, rz1, rz2, rz3, rz4⟩ := hres
        dsimp only
        walk_at "v"
        rw [show decide (rd.shown = rd.shown) = true from decide_eq_true rfl]
        have cl := T.cl_Store; have n1' := T.no_Store_own_most; have n2' := T.no_Store_own_rooms; have n3' := T.no_Store_own_heads
        have fm := sfD_most 4000 r h; have fr' := sfD_rooms 4000 r h; have fh' := sfD_heads 4000 r h
        have noR : (sfD 4000 r h).lookup ("rooms" : Str) = none := sfD_no _ _ _ (by decide +kernel) (by decide +kernel) (by decide +kernel)
        have noH : (sfD 4000 r h).lookup ("heads" : Str) = none := sfD_no _ _ _ (by decide +kernel) (by decide +kernel) (by decide +kernel)
        have a1 := st14.ap
        have le' := inv'.le; have j3 := inv'.nd
        have l64 : hm'.length < 64 := by omega
        walk_at "v"
        intro m f hm1 hf
        have st15 := st14.mono (VW.less_sup (u := .dK (VW.iK m)) hf)
        have nof : o ≠ f := VW.sne_of eo14 hf
        have eo15 : (VW.sup S14 f (.dK (VW.iK m))) o = some (.dK (VW.iK hm')) := by rw [VW.sup_ne nof]; exact eo14
        have ef15 : (VW.sup S14 f (.dK (VW.iK m))) f = some (.dK (VW.iK m)) := VW.sup_same
        have npf : p ≠ f := VW.sne_of st14.ap hf
        have nrf : r ≠ f := VW.sne_of st14.ar hf
        have nhf : h ≠ f := VW.sne_of st14.ah hf
        generalize VW.sup S14 f (.dK (VW.iK m)) = S15 at st15 eo15 ef15
        have ty : VW.tyN S15 (.ref f) = "dict" := by show VW.tyH (S15 f) = _; rw [ef15]; rfl
        have ty2 : VW.okTy (VW.tyN S15 (.ref f)) = true := by rw [ty]; rfl
        have nm : (m.map (·.1)).Nodup := (hm1.map _).nodup_iff.mpr j3
        have nm2 := VW.iK_nodup nm
        have om := inv'.ok hm1
        have om2 := inv'.ok (List.Perm.refl hm')
        have te : VW.eqDic (VW.iK m) (VW.iK hm') = true := VW.eqDic_told (.of_perm j3 hm1) om
        have b1 := st15.ap
        walk_at "v"
        rw [ty]
        walk_at "v"
        rw [te]
        have rl : (rowsI recs).length < 64 := by rw [rowsI_len]; omega
        have rnd := rowsI_nodup recs
        walk_at "v"
        intro m2 f2 hm2 hf2
        have st16 := st15.mono (VW.less_sup (u := .dK (VW.iK m2)) hf2)
        have eo16 : (VW.sup S15 f2 (.dK (VW.iK m2))) o = some (.dK (VW.iK hm')) := VW.less_sup hf2 _ _ eo15
        have ef16 : (VW.sup S15 f2 (.dK (VW.iK m2))) f = some (.dK (VW.iK m)) := VW.less_sup hf2 _ _ ef15
        have eg16 : (VW.sup S15 f2 (.dK (VW.iK m2))) f2 = some (.dK (VW.iK m2)) := VW.sup_same
        generalize VW.sup S15 f2 (.dK (VW.iK m2)) = S16 at st16 eo16 ef16 eg16
        walk_at "v"
        refine ⟨Or.inl (congrArg VW.D.lst (VW.numD_map recs 0)), fun g hg => ?_⟩
        rw [← rowsI_key, VW.mergeD_apart _ _ (rowsI_apart recs), List.nil_append]
        refine Or.inl ⟨_, _, rfl, VW.sup_same, ?_⟩
        rw [VW.sdel_sup hg]
        have pm2 := rowsI_ok hrec hm2
        have pm3 := rowsI_ok hrec (List.Perm.refl _)
        have nm3 : (m2.map (·.1)).Nodup := (hm2.map _).nodup_iff.mpr rnd
        have nm4 := VW.iK_nodup nm3
        have nm5 := VW.iK_nodup rnd
        have te2 : VW.eqDic (VW.iK m2) (VW.iK (rowsI recs)) = true := VW.eqDic_told (.of_perm rnd hm2) pm2
        walk_at "v"
        rw [te2]
        walk_at "v"
        refine ⟨_, _, _, _, _, _, _, _, _, hm', rfl, ?_, ?_, inv'⟩
        · exact ⟨by rw [VW.sup_ne npf]; exact st16.ap, by rw [VW.sup_ne nrf]; exact st16.ar, by rw [VW.sup_ne nhf]; exact st16.ah, st16.rh⟩
        · rw [VW.sup_ne nof]; exact eo16
      · rintro env S6 ⟨v1, v5, v7, v8, v9, v10, v11, v12, v13, hm, rfl, st6, eo6, inv⟩
        have cl := T.cl_Store; have n1' := T.no_Store_own_most; have n2' := T.no_Store_own_rooms; have n3' := T.no_Store_own_heads
        have fm := sfD_most 4000 r h; have fr' := sfD_rooms 4000 r h; have fh' := sfD_heads 4000 r h
        have noH : (sfD 4000 r h).lookup ("heads" : Str) = none := sfD_no _ _ _ (by decide +kernel) (by decide +kernel) (by decide +kernel)
        have a1 := st6.ap
        have le' : hm.length < 64 := by
          exact Nat.lt_of_le_of_lt (Nat.le_trans inv.le (most_rounds _)) (by decide)
        have j3 := inv.nd
        walk_at "v"
        intro m f hm1 hf
        have st15 := st6.mono (VW.less_sup (u := .dK (VW.iK m)) hf)
        have eo15 : (VW.sup S6 f (.dK (VW.iK m))) o = some (.dK (VW.iK hm)) := VW.less_sup hf _ _ eo6
        have ef15 : (VW.sup S6 f (.dK (VW.iK m))) f = some (.dK (VW.iK m)) := VW.sup_same
        have b1 := st15.ap
        generalize VW.sup S6 f (.dK (VW.iK m)) = S7 at st15 eo15 ef15 b1
        have nm : (m.map (·.1)).Nodup := (hm1.map _).nodup_iff.mpr j3
        have nm2 := VW.iK_nodup nm
        have om := inv.ok hm1
        have om2 := inv.ok (List.Perm.refl hm)
        have te : VW.eqDic (VW.iK m) (VW.iK hm) = true := VW.eqDic_told (.of_perm j3 hm1) om
        walk_at "v"
        rw [te]
        walk_at "v"
        rw [rowsI_len]
        refine ⟨⟨by omega, by omega⟩, ?_⟩
        walk_at "v"
        rw [hlen, hn, decide_eq_true rfl]

end
theorem all_mk {l : PySem.W.OpenLaw} {w : World} {K : PySem.W.Frag} {h : Heap} {mg : Str → Option Value} {fa : Addr} (X : K.In h) (G : h.Ns mainGlobals mg) (hfa : mg "law" = some (.ref fa))
    {a_NoSize_init a_NoRoom_init a_NoSlot_init a_Full_init a_is_whole a_is_key a_is_number a_are_rows a_are_bounds a_is_leaf a_is_bough a_is_record a_look_at_most a_least_free a_Store_init a_Store_look_at_room a_Store_look_at_slot a_Store_look_at_free a_Store_put_in a_Store_new_slot a_Store_load a_Store_drop a_Store_swap a_Store_rooms a_Store_heads a_Store___len__ a_pool a_take a_is_slot a_key a_number a_value a_drawn_base a_drawn_record a_done a_due a_some a_law c_Store c_NoSize c_NoRoom c_Full c_NoSlot c_NoRecord k_FORMS k_FORMS_0 k_FORMS_1 k_FORMS_2 k_FORMS_3 k_FORMS_4 k_FORMS_5 k_FORMS_6 k_FORMS_7 k_FORMS_8 k_FORMS_9 : Addr} {od0 an0 od1 an1 od2 an2 od3 an3 od4 an4 od5 an5 od6 an6 od7 an7 od8 an8 od9 an9 od10 an10 od11 an11 od12 an12 od13 an13 od14 an14 od15 an15 od16 an16 od17 an17 od18 an18 od19 an19 od20 an20 od21 an21 od22 an22 od23 an23 od24 an24 od25 an25 od26 an26 od27 an27 od28 an28 od29 an29 od30 an30 od31 an31 od32 an32 od33 an33 od34 an34 od35 an35 od36 an36 od37 an37 : Option Addr} {sl0 sl1 sl2 sl3 sl4 sl5 sl6 sl7 sl8 sl9 sl10 sl11 sl12 sl13 sl14 sl15 sl16 sl17 sl18 sl19 sl20 sl21 sl22 sl23 sl24 sl25 sl26 sl27 sl28 sl29 sl30 sl31 sl32 sl33 sl34 sl35 sl36 sl37 : Array (Option Value)} {oc0 kV0 dc0 pm0 cd0 ct0 oc1 kV1 dc1 pm1 cd1 ct1 oc2 kV2 dc2 pm2 cd2 ct2 oc3 kV3 dc3 pm3 cd3 ct3 oc4 kV4 dc4 pm4 cd4 ct4 oc5 kV5 dc5 pm5 cd5 ct5 oc6 kV6 dc6 pm6 cd6 ct6 oc7 kV7 dc7 pm7 cd7 ct7 oc8 kV8 dc8 pm8 cd8 ct8 oc9 kV9 dc9 pm9 cd9 ct9 oc10 kV10 dc10 pm10 cd10 ct10 oc11 kV11 dc11 pm11 cd11 ct11 oc12 kV12 dc12 pm12 cd12 ct12 oc13 kV13 dc13 pm13 cd13 ct13 oc14 dc14 pm14 cd14 ct14 oc15 kV15 dc15 pm15 cd15 ct15 oc16 kV16 dc16 pm16 cd16 ct16 oc17 kV17 dc17 pm17 cd17 ct17 oc18 kV18 dc18 pm18 cd18 ct18 oc19 kV19 dc19 pm19 cd19 ct19 oc20 kV20 dc20 pm20 cd20 ct20 oc21 kV21 dc21 pm21 cd21 ct21 oc22 kV22 dc22 pm22 cd22 ct22 oc23 kV23 dc23 pm23 cd23 ct23 oc24 kV24 dc24 pm24 cd24 ct24 oc25 kV25 dc25 pm25 cd25 ct25 oc26 kV26 dc26 pm26 cd26 ct26 oc27 kV27 dc27 pm27 cd27 ct27 oc28 kV28 dc28 pm28 cd28 ct28 oc29 kV29 dc29 pm29 cd29 ct29 oc30 kV30 dc30 pm30 cd30 ct30 oc31 kV31 dc31 pm31 cd31 ct31 oc32 kV32 dc32 pm32 cd32 ct32 oc33 kV33 dc33 pm33 cd33 ct33 oc34 kV34 dc34 pm34 cd34 ct34 oc35 kV35 dc35 pm35 cd35 ct35 oc36 kV36 dc36 pm36 cd36 ct36 oc37 kV37 dc37 pm37 cd37 ct37 : Value} {tk_MOST_KEY tk_MOST_LEVEL tk_MOST_ROWS tk_MOST_ROOMS tk_ROOMS : Tok} {es_FORMS : Array DictEntry} {nn_FORMS : Nat} {dd_FORMS_0 dd_FORMS_1 dd_FORMS_2 dd_FORMS_3 dd_FORMS_4 dd_FORMS_5 dd_FORMS_6 dd_FORMS_7 dd_FORMS_8 dd_FORMS_9 : Option Addr} {tn_FORMS_0 tn_FORMS_1 tn_FORMS_2 tn_FORMS_3 tn_FORMS_4 tn_FORMS_5 tn_FORMS_6 tn_FORMS_7 tn_FORMS_8 tn_FORMS_9 : Nat} {ts_FORMS_0 ts_FORMS_1 ts_FORMS_2 ts_FORMS_3 ts_FORMS_4 ts_FORMS_5 ts_FORMS_6 ts_FORMS_7 ts_FORMS_8 ts_FORMS_9 : Array (Option Value)} {nm_NoSize qq_NoSize : Str} {NN_NoSize : Addr} {bs_NoSize : List Value} {sn_NoSize : List Str} {sub_NoSize : List Value} {ab_NoSize : Bool} {col_NoSize : Option Bool} {dd_NoSize : Option Addr} {m0_NoSize m1_NoSize m2_NoSize m3_NoSize m5_NoSize : Option Value} {nm_NoRoom qq_NoRoom : Str} {NN_NoRoom : Addr} {bs_NoRoom : List Value} {sn_NoRoom : List Str} {sub_NoRoom : List Value} {ab_NoRoom : Bool} {col_NoRoom : Option Bool} {dd_NoRoom : Option Addr} {m0_NoRoom m1_NoRoom m2_NoRoom m3_NoRoom m5_NoRoom : Option Value} {nm_Full qq_Full : Str} {NN_Full : Addr} {bs_Full : List Value} {sn_Full : List Str} {sub_Full : List Value} {ab_Full : Bool} {col_Full : Option Bool} {dd_Full : Option Addr} {m0_Full m1_Full m2_Full m3_Full m5_Full : Option Value} {nm_NoSlot qq_NoSlot : Str} {NN_NoSlot : Addr} {bs_NoSlot : List Value} {sn_NoSlot : List Str} {sub_NoSlot : List Value} {ab_NoSlot : Bool} {col_NoSlot : Option Bool} {dd_NoSlot : Option Addr} {m0_NoSlot m1_NoSlot m2_NoSlot m3_NoSlot m5_NoSlot : Option Value} {kvA_Store_init : Addr} {kvT_Store_init : Tok}
    (aC0 : PySem.W.nsIn K mainGlobals "Store" = some (some (.ref c_Store)))
    (gE_NoSize : PySem.W.nsIn K mainGlobals "NoSize" = some (some (.ref c_NoSize)))
    (xE_NoSize : K.lookup c_NoSize = some (excClassObj nm_NoSize qq_NoSize c_NoSize NN_NoSize bs_NoSize ER.tlV true sn_NoSize sub_NoSize ab_NoSize col_NoSize dd_NoSize m0_NoSize m1_NoSize m2_NoSize m3_NoSize m5_NoSize "ValueError.__new__"))
    (sE_NoSize : PySem.W.findIn K (.ref c_NoSize) "__setattr__" = some (some (.builtin "object.__setattr__")))
    (rE_NoSize : PySem.W.findIn K (.ref c_NoSize) "__getattribute__" = some (some (.builtin "BaseException.__getattribute__")))
    (tE_NoSize : PySem.W.findIn K (.ref c_NoSize) "__getattr__" = some none)
    (dE_NoSize : PySem.W.hasDictIn K c_NoSize = true)
    (nE_NoSize_word : PySem.W.findIn K (.ref c_NoSize) "word" = some none)
    (bE_NoSize : PySem.W.subIn K (.ref c_NoSize) (.type "BaseException") = some true)
    (yE_NoSize : PySem.W.typeIn K (.ref c_NoSize) = some (.type "type"))
    (kE_NoSize : PySem.W.keepIn K (.ref c_NoSize) = true)
    (iE_NoSize : PySem.W.isClsIn K c_NoSize = true)
    (uE_NoSize : PySem.W.subIn K (.ref c_NoSize) (.ref c_NoSize) = some true)
    (gE_NoRoom : PySem.W.nsIn K mainGlobals "NoRoom" = some (some (.ref c_NoRoom)))
    (xE_NoRoom : K.lookup c_NoRoom = some (excClassObj nm_NoRoom qq_NoRoom c_NoRoom NN_NoRoom bs_NoRoom ER.tlI true sn_NoRoom sub_NoRoom ab_NoRoom col_NoRoom dd_NoRoom m0_NoRoom m1_NoRoom m2_NoRoom m3_NoRoom m5_NoRoom "IndexError.__new__"))
    (sE_NoRoom : PySem.W.findIn K (.ref c_NoRoom) "__setattr__" = some (some (.builtin "object.__setattr__")))
    (rE_NoRoom : PySem.W.findIn K (.ref c_NoRoom) "__getattribute__" = some (some (.builtin "BaseException.__getattribute__")))
    (tE_NoRoom : PySem.W.findIn K (.ref c_NoRoom) "__getattr__" = some none)
    (dE_NoRoom : PySem.W.hasDictIn K c_NoRoom = true)
    (nE_NoRoom_room : PySem.W.findIn K (.ref c_NoRoom) "room" = some none)
    (bE_NoRoom : PySem.W.subIn K (.ref c_NoRoom) (.type "BaseException") = some true)
    (yE_NoRoom : PySem.W.typeIn K (.ref c_NoRoom) = some (.type "type"))
    (kE_NoRoom : PySem.W.keepIn K (.ref c_NoRoom) = true)
    (iE_NoRoom : PySem.W.isClsIn K c_NoRoom = true)
    (uE_NoRoom : PySem.W.subIn K (.ref c_NoRoom) (.ref c_NoRoom) = some true)
    (gE_Full : PySem.W.nsIn K mainGlobals "Full" = some (some (.ref c_Full)))
    (xE_Full : K.lookup c_Full = some (excClassObj nm_Full qq_Full c_Full NN_Full bs_Full ER.tlO true sn_Full sub_Full ab_Full col_Full dd_Full m0_Full m1_Full m2_Full m3_Full m5_Full "OverflowError.__new__"))
    (sE_Full : PySem.W.findIn K (.ref c_Full) "__setattr__" = some (some (.builtin "object.__setattr__")))
    (rE_Full : PySem.W.findIn K (.ref c_Full) "__getattribute__" = some (some (.builtin "BaseException.__getattribute__")))
    (tE_Full : PySem.W.findIn K (.ref c_Full) "__getattr__" = some none)
    (dE_Full : PySem.W.hasDictIn K c_Full = true)
    (nE_Full_many : PySem.W.findIn K (.ref c_Full) "many" = some none)
    (bE_Full : PySem.W.subIn K (.ref c_Full) (.type "BaseException") = some true)
    (yE_Full : PySem.W.typeIn K (.ref c_Full) = some (.type "type"))
    (kE_Full : PySem.W.keepIn K (.ref c_Full) = true)
    (iE_Full : PySem.W.isClsIn K c_Full = true)
    (uE_Full : PySem.W.subIn K (.ref c_Full) (.ref c_Full) = some true)
    (gE_NoSlot : PySem.W.nsIn K mainGlobals "NoSlot" = some (some (.ref c_NoSlot)))
    (xE_NoSlot : K.lookup c_NoSlot = some (excClassObj nm_NoSlot qq_NoSlot c_NoSlot NN_NoSlot bs_NoSlot ER.tlI true sn_NoSlot sub_NoSlot ab_NoSlot col_NoSlot dd_NoSlot m0_NoSlot m1_NoSlot m2_NoSlot m3_NoSlot m5_NoSlot "IndexError.__new__"))
    (sE_NoSlot : PySem.W.findIn K (.ref c_NoSlot) "__setattr__" = some (some (.builtin "object.__setattr__")))
    (rE_NoSlot : PySem.W.findIn K (.ref c_NoSlot) "__getattribute__" = some (some (.builtin "BaseException.__getattribute__")))
    (tE_NoSlot : PySem.W.findIn K (.ref c_NoSlot) "__getattr__" = some none)
    (dE_NoSlot : PySem.W.hasDictIn K c_NoSlot = true)
    (nE_NoSlot_slot : PySem.W.findIn K (.ref c_NoSlot) "slot" = some none)
    (bE_NoSlot : PySem.W.subIn K (.ref c_NoSlot) (.type "BaseException") = some true)
    (yE_NoSlot : PySem.W.typeIn K (.ref c_NoSlot) = some (.type "type"))
    (kE_NoSlot : PySem.W.keepIn K (.ref c_NoSlot) = true)
    (iE_NoSlot : PySem.W.isClsIn K c_NoSlot = true)
    (uE_NoSlot : PySem.W.subIn K (.ref c_NoSlot) (.ref c_NoSlot) = some true)
    (gE_NoRecord : PySem.W.nsIn K mainGlobals "NoRecord" = some (some (.ref c_NoRecord)))
    (qE_NoRecord : PySem.W.excIn K c_NoRecord ER.tlV "ValueError.__new__" = true)
    (bE_NoRecord : PySem.W.subIn K (.ref c_NoRecord) (.type "BaseException") = some true)
    (yE_NoRecord : PySem.W.typeIn K (.ref c_NoRecord) = some (.type "type"))
    (kE_NoRecord : PySem.W.keepIn K (.ref c_NoRecord) = true)
    (iE_NoRecord : PySem.W.isClsIn K c_NoRecord = true)
    (uE_NoRecord : PySem.W.subIn K (.ref c_NoRecord) (.ref c_NoRecord) = some true)
    (vE_NoRoom_NoSlot : PySem.W.subIn K (.ref c_NoRoom) (.ref c_NoSlot) = some false)
    (a0 : PySem.W.findIn K (.ref c_NoSize) "__init__" = some (some (.ref a_NoSize_init)))
    (i0 : PySem.W.typeIn K (.ref a_NoSize_init) = some (.type "function"))
    (l0 : K.lookup a_NoSize_init = some ⟨oc0, od0, .func (PySem.W.fnOf "__init__" "NoSize.__init__" (defArgs s_NoSize_init) (defBody s_NoSize_init) (defScope s_NoSize_init) .none kV0 dc0 pm0 an0 cd0 ct0), sl0⟩)
    (c0 : PySem.W.codeIn K cd0 "NoSize.__init__" = true)
    (k0 : PySem.W.keepIn K (.ref a_NoSize_init) = true)
    (a1 : PySem.W.findIn K (.ref c_NoRoom) "__init__" = some (some (.ref a_NoRoom_init)))
    (i1 : PySem.W.typeIn K (.ref a_NoRoom_init) = some (.type "function"))
    (l1 : K.lookup a_NoRoom_init = some ⟨oc1, od1, .func (PySem.W.fnOf "__init__" "NoRoom.__init__" (defArgs s_NoRoom_init) (defBody s_NoRoom_init) (defScope s_NoRoom_init) .none kV1 dc1 pm1 an1 cd1 ct1), sl1⟩)
    (c1 : PySem.W.codeIn K cd1 "NoRoom.__init__" = true)
    (k1 : PySem.W.keepIn K (.ref a_NoRoom_init) = true)
    (a2 : PySem.W.findIn K (.ref c_NoSlot) "__init__" = some (some (.ref a_NoSlot_init)))
    (i2 : PySem.W.typeIn K (.ref a_NoSlot_init) = some (.type "function"))
    (l2 : K.lookup a_NoSlot_init = some ⟨oc2, od2, .func (PySem.W.fnOf "__init__" "NoSlot.__init__" (defArgs s_NoSlot_init) (defBody s_NoSlot_init) (defScope s_NoSlot_init) .none kV2 dc2 pm2 an2 cd2 ct2), sl2⟩)
    (c2 : PySem.W.codeIn K cd2 "NoSlot.__init__" = true)
    (k2 : PySem.W.keepIn K (.ref a_NoSlot_init) = true)
    (a3 : PySem.W.findIn K (.ref c_Full) "__init__" = some (some (.ref a_Full_init)))
    (i3 : PySem.W.typeIn K (.ref a_Full_init) = some (.type "function"))
    (l3 : K.lookup a_Full_init = some ⟨oc3, od3, .func (PySem.W.fnOf "__init__" "Full.__init__" (defArgs s_Full_init) (defBody s_Full_init) (defScope s_Full_init) .none kV3 dc3 pm3 an3 cd3 ct3), sl3⟩)
    (c3 : PySem.W.codeIn K cd3 "Full.__init__" = true)
    (k3 : PySem.W.keepIn K (.ref a_Full_init) = true)
    (a4 : PySem.W.nsIn K mainGlobals "is_whole" = some (some (.ref a_is_whole)))
    (l4 : K.lookup a_is_whole = some ⟨oc4, od4, .func (PySem.W.fnOf "is_whole" "is_whole" (defArgs s_is_whole) (defBody s_is_whole) (defScope s_is_whole) .none kV4 dc4 pm4 an4 cd4 ct4), sl4⟩)
    (c4 : PySem.W.codeIn K cd4 "is_whole" = true)
    (k4 : PySem.W.keepIn K (.ref a_is_whole) = true)
    (a5 : PySem.W.nsIn K mainGlobals "is_key" = some (some (.ref a_is_key)))
    (l5 : K.lookup a_is_key = some ⟨oc5, od5, .func (PySem.W.fnOf "is_key" "is_key" (defArgs s_is_key) (defBody s_is_key) (defScope s_is_key) .none kV5 dc5 pm5 an5 cd5 ct5), sl5⟩)
    (c5 : PySem.W.codeIn K cd5 "is_key" = true)
    (k5 : PySem.W.keepIn K (.ref a_is_key) = true)
    (a6 : PySem.W.nsIn K mainGlobals "is_number" = some (some (.ref a_is_number)))
    (l6 : K.lookup a_is_number = some ⟨oc6, od6, .func (PySem.W.fnOf "is_number" "is_number" (defArgs s_is_number) (defBody s_is_number) (defScope s_is_number) .none kV6 dc6 pm6 an6 cd6 ct6), sl6⟩)
    (c6 : PySem.W.codeIn K cd6 "is_number" = true)
    (k6 : PySem.W.keepIn K (.ref a_is_number) = true)
    (a7 : PySem.W.nsIn K mainGlobals "are_rows" = some (some (.ref a_are_rows)))
    (l7 : K.lookup a_are_rows = some ⟨oc7, od7, .func (PySem.W.fnOf "are_rows" "are_rows" (defArgs s_are_rows) (defBody s_are_rows) (defScope s_are_rows) .none kV7 dc7 pm7 an7 cd7 ct7), sl7⟩)
    (c7 : PySem.W.codeIn K cd7 "are_rows" = true)
    (k7 : PySem.W.keepIn K (.ref a_are_rows) = true)
    (a8 : PySem.W.nsIn K mainGlobals "are_bounds" = some (some (.ref a_are_bounds)))
    (l8 : K.lookup a_are_bounds = some ⟨oc8, od8, .func (PySem.W.fnOf "are_bounds" "are_bounds" (defArgs s_are_bounds) (defBody s_are_bounds) (defScope s_are_bounds) .none kV8 dc8 pm8 an8 cd8 ct8), sl8⟩)
    (c8 : PySem.W.codeIn K cd8 "are_bounds" = true)
    (k8 : PySem.W.keepIn K (.ref a_are_bounds) = true)
    (a9 : PySem.W.nsIn K mainGlobals "is_leaf" = some (some (.ref a_is_leaf)))
    (l9 : K.lookup a_is_leaf = some ⟨oc9, od9, .func (PySem.W.fnOf "is_leaf" "is_leaf" (defArgs s_is_leaf) (defBody s_is_leaf) (defScope s_is_leaf) .none kV9 dc9 pm9 an9 cd9 ct9), sl9⟩)
    (c9 : PySem.W.codeIn K cd9 "is_leaf" = true)
    (k9 : PySem.W.keepIn K (.ref a_is_leaf) = true)
    (a10 : PySem.W.nsIn K mainGlobals "is_bough" = some (some (.ref a_is_bough)))
    (l10 : K.lookup a_is_bough = some ⟨oc10, od10, .func (PySem.W.fnOf "is_bough" "is_bough" (defArgs s_is_bough) (defBody s_is_bough) (defScope s_is_bough) .none kV10 dc10 pm10 an10 cd10 ct10), sl10⟩)
    (c10 : PySem.W.codeIn K cd10 "is_bough" = true)
    (k10 : PySem.W.keepIn K (.ref a_is_bough) = true)
    (a11 : PySem.W.nsIn K mainGlobals "is_record" = some (some (.ref a_is_record)))
    (l11 : K.lookup a_is_record = some ⟨oc11, od11, .func (PySem.W.fnOf "is_record" "is_record" (defArgs s_is_record) (defBody s_is_record) (defScope s_is_record) .none kV11 dc11 pm11 an11 cd11 ct11), sl11⟩)
    (c11 : PySem.W.codeIn K cd11 "is_record" = true)
    (k11 : PySem.W.keepIn K (.ref a_is_record) = true)
    (a12 : PySem.W.nsIn K mainGlobals "look_at_most" = some (some (.ref a_look_at_most)))
    (l12 : K.lookup a_look_at_most = some ⟨oc12, od12, .func (PySem.W.fnOf "look_at_most" "look_at_most" (defArgs s_look_at_most) (defBody s_look_at_most) (defScope s_look_at_most) .none kV12 dc12 pm12 an12 cd12 ct12), sl12⟩)
    (c12 : PySem.W.codeIn K cd12 "look_at_most" = true)
    (k12 : PySem.W.keepIn K (.ref a_look_at_most) = true)
    (a13 : PySem.W.nsIn K mainGlobals "least_free" = some (some (.ref a_least_free)))
    (l13 : K.lookup a_least_free = some ⟨oc13, od13, .func (PySem.W.fnOf "least_free" "least_free" (defArgs s_least_free) (defBody s_least_free) (defScope s_least_free) .none kV13 dc13 pm13 an13 cd13 ct13), sl13⟩)
    (c13 : PySem.W.codeIn K cd13 "least_free" = true)
    (k13 : PySem.W.keepIn K (.ref a_least_free) = true)
    (a14 : PySem.W.findIn K (.ref c_Store) "__init__" = some (some (.ref a_Store_init)))
    (i14 : PySem.W.isFn K (.ref a_Store_init) = true)
    (l14 : K.lookup a_Store_init = some ⟨oc14, od14, .func (PySem.W.fnOf "__init__" "Store.__init__" (defArgs s_Store_init) (defBody s_Store_init) (defScope s_Store_init) .none (.ref kvA_Store_init) dc14 pm14 an14 cd14 ct14), sl14⟩)
    (kvn_Store_init : PySem.W.nsIn K kvA_Store_init "most" = some (some (.int 4000 kvT_Store_init)))
    (c14 : PySem.W.codeIn K cd14 "Store.__init__" = true)
    (k14 : PySem.W.keepIn K (.ref a_Store_init) = true)
    (a15 : PySem.W.findIn K (.ref c_Store) "look_at_room" = some (some (.ref a_Store_look_at_room)))
    (i15 : PySem.W.isFn K (.ref a_Store_look_at_room) = true)
    (l15 : K.lookup a_Store_look_at_room = some ⟨oc15, od15, .func (PySem.W.fnOf "look_at_room" "Store.look_at_room" (defArgs s_Store_look_at_room) (defBody s_Store_look_at_room) (defScope s_Store_look_at_room) .none kV15 dc15 pm15 an15 cd15 ct15), sl15⟩)
    (c15 : PySem.W.codeIn K cd15 "Store.look_at_room" = true)
    (k15 : PySem.W.keepIn K (.ref a_Store_look_at_room) = true)
    (a16 : PySem.W.findIn K (.ref c_Store) "look_at_slot" = some (some (.ref a_Store_look_at_slot)))
    (i16 : PySem.W.isFn K (.ref a_Store_look_at_slot) = true)
    (l16 : K.lookup a_Store_look_at_slot = some ⟨oc16, od16, .func (PySem.W.fnOf "look_at_slot" "Store.look_at_slot" (defArgs s_Store_look_at_slot) (defBody s_Store_look_at_slot) (defScope s_Store_look_at_slot) .none kV16 dc16 pm16 an16 cd16 ct16), sl16⟩)
    (c16 : PySem.W.codeIn K cd16 "Store.look_at_slot" = true)
    (k16 : PySem.W.keepIn K (.ref a_Store_look_at_slot) = true)
    (a17 : PySem.W.findIn K (.ref c_Store) "look_at_free" = some (some (.ref a_Store_look_at_free)))
    (i17 : PySem.W.isFn K (.ref a_Store_look_at_free) = true)
    (l17 : K.lookup a_Store_look_at_free = some ⟨oc17, od17, .func (PySem.W.fnOf "look_at_free" "Store.look_at_free" (defArgs s_Store_look_at_free) (defBody s_Store_look_at_free) (defScope s_Store_look_at_free) .none kV17 dc17 pm17 an17 cd17 ct17), sl17⟩)
    (c17 : PySem.W.codeIn K cd17 "Store.look_at_free" = true)
    (k17 : PySem.W.keepIn K (.ref a_Store_look_at_free) = true)
    (a18 : PySem.W.findIn K (.ref c_Store) "put_in" = some (some (.ref a_Store_put_in)))
    (i18 : PySem.W.isFn K (.ref a_Store_put_in) = true)
    (l18 : K.lookup a_Store_put_in = some ⟨oc18, od18, .func (PySem.W.fnOf "put_in" "Store.put_in" (defArgs s_Store_put_in) (defBody s_Store_put_in) (defScope s_Store_put_in) .none kV18 dc18 pm18 an18 cd18 ct18), sl18⟩)
    (c18 : PySem.W.codeIn K cd18 "Store.put_in" = true)
    (k18 : PySem.W.keepIn K (.ref a_Store_put_in) = true)
    (a19 : PySem.W.findIn K (.ref c_Store) "new_slot" = some (some (.ref a_Store_new_slot)))
    (i19 : PySem.W.isFn K (.ref a_Store_new_slot) = true)
    (l19 : K.lookup a_Store_new_slot = some ⟨oc19, od19, .func (PySem.W.fnOf "new_slot" "Store.new_slot" (defArgs s_Store_new_slot) (defBody s_Store_new_slot) (defScope s_Store_new_slot) .none kV19 dc19 pm19 an19 cd19 ct19), sl19⟩)
    (c19 : PySem.W.codeIn K cd19 "Store.new_slot" = true)
    (k19 : PySem.W.keepIn K (.ref a_Store_new_slot) = true)
    (a20 : PySem.W.findIn K (.ref c_Store) "load" = some (some (.ref a_Store_load)))
    (i20 : PySem.W.isFn K (.ref a_Store_load) = true)
    (l20 : K.lookup a_Store_load = some ⟨oc20, od20, .func (PySem.W.fnOf "load" "Store.load" (defArgs s_Store_load) (defBody s_Store_load) (defScope s_Store_load) .none kV20 dc20 pm20 an20 cd20 ct20), sl20⟩)
    (c20 : PySem.W.codeIn K cd20 "Store.load" = true)
    (k20 : PySem.W.keepIn K (.ref a_Store_load) = true)
    (a21 : PySem.W.findIn K (.ref c_Store) "drop" = some (some (.ref a_Store_drop)))
    (i21 : PySem.W.isFn K (.ref a_Store_drop) = true)
    (l21 : K.lookup a_Store_drop = some ⟨oc21, od21, .func (PySem.W.fnOf "drop" "Store.drop" (defArgs s_Store_drop) (defBody s_Store_drop) (defScope s_Store_drop) .none kV21 dc21 pm21 an21 cd21 ct21), sl21⟩)
    (c21 : PySem.W.codeIn K cd21 "Store.drop" = true)
    (k21 : PySem.W.keepIn K (.ref a_Store_drop) = true)
    (a22 : PySem.W.findIn K (.ref c_Store) "swap" = some (some (.ref a_Store_swap)))
    (i22 : PySem.W.isFn K (.ref a_Store_swap) = true)
    (l22 : K.lookup a_Store_swap = some ⟨oc22, od22, .func (PySem.W.fnOf "swap" "Store.swap" (defArgs s_Store_swap) (defBody s_Store_swap) (defScope s_Store_swap) .none kV22 dc22 pm22 an22 cd22 ct22), sl22⟩)
    (c22 : PySem.W.codeIn K cd22 "Store.swap" = true)
    (k22 : PySem.W.keepIn K (.ref a_Store_swap) = true)
    (a23 : PySem.W.findIn K (.ref c_Store) "rooms" = some (some (.ref a_Store_rooms)))
    (i23 : PySem.W.isFn K (.ref a_Store_rooms) = true)
    (l23 : K.lookup a_Store_rooms = some ⟨oc23, od23, .func (PySem.W.fnOf "rooms" "Store.rooms" (defArgs s_Store_rooms) (defBody s_Store_rooms) (defScope s_Store_rooms) .none kV23 dc23 pm23 an23 cd23 ct23), sl23⟩)
    (c23 : PySem.W.codeIn K cd23 "Store.rooms" = true)
    (k23 : PySem.W.keepIn K (.ref a_Store_rooms) = true)
    (a24 : PySem.W.findIn K (.ref c_Store) "heads" = some (some (.ref a_Store_heads)))
    (i24 : PySem.W.isFn K (.ref a_Store_heads) = true)
    (l24 : K.lookup a_Store_heads = some ⟨oc24, od24, .func (PySem.W.fnOf "heads" "Store.heads" (defArgs s_Store_heads) (defBody s_Store_heads) (defScope s_Store_heads) .none kV24 dc24 pm24 an24 cd24 ct24), sl24⟩)
    (c24 : PySem.W.codeIn K cd24 "Store.heads" = true)
    (k24 : PySem.W.keepIn K (.ref a_Store_heads) = true)
    (a25 : PySem.W.findIn K (.ref c_Store) "__len__" = some (some (.ref a_Store___len__)))
    (i25 : PySem.W.isFn K (.ref a_Store___len__) = true)
    (l25 : K.lookup a_Store___len__ = some ⟨oc25, od25, .func (PySem.W.fnOf "__len__" "Store.__len__" (defArgs s_Store___len__) (defBody s_Store___len__) (defScope s_Store___len__) .none kV25 dc25 pm25 an25 cd25 ct25), sl25⟩)
    (c25 : PySem.W.codeIn K cd25 "Store.__len__" = true)
    (k25 : PySem.W.keepIn K (.ref a_Store___len__) = true)
    (a26 : PySem.W.nsIn K mainGlobals "_law_pool" = some (some (.ref a_pool)))
    (l26 : K.lookup a_pool = some ⟨oc26, od26, .func (PySem.W.fnOf "_law_pool" "_law_pool" (defArgs s_pool) (defBody s_pool) (defScope s_pool) .none kV26 dc26 pm26 an26 cd26 ct26), sl26⟩)
    (c26 : PySem.W.codeIn K cd26 "_law_pool" = true)
    (k26 : PySem.W.keepIn K (.ref a_pool) = true)
    (a27 : PySem.W.nsIn K mainGlobals "_law_take" = some (some (.ref a_take)))
    (l27 : K.lookup a_take = some ⟨oc27, od27, .func (PySem.W.fnOf "_law_take" "_law_take" (defArgs s_take) (defBody s_take) (defScope s_take) .none kV27 dc27 pm27 an27 cd27 ct27), sl27⟩)
    (c27 : PySem.W.codeIn K cd27 "_law_take" = true)
    (k27 : PySem.W.keepIn K (.ref a_take) = true)
    (a28 : PySem.W.nsIn K mainGlobals "_law_is_slot" = some (some (.ref a_is_slot)))
    (l28 : K.lookup a_is_slot = some ⟨oc28, od28, .func (PySem.W.fnOf "_law_is_slot" "_law_is_slot" (defArgs s_is_slot) (defBody s_is_slot) (defScope s_is_slot) .none kV28 dc28 pm28 an28 cd28 ct28), sl28⟩)
    (c28 : PySem.W.codeIn K cd28 "_law_is_slot" = true)
    (k28 : PySem.W.keepIn K (.ref a_is_slot) = true)
    (a29 : PySem.W.nsIn K mainGlobals "_law_key" = some (some (.ref a_key)))
    (l29 : K.lookup a_key = some ⟨oc29, od29, .func (PySem.W.fnOf "_law_key" "_law_key" (defArgs s_key) (defBody s_key) (defScope s_key) .none kV29 dc29 pm29 an29 cd29 ct29), sl29⟩)
    (c29 : PySem.W.codeIn K cd29 "_law_key" = true)
    (k29 : PySem.W.keepIn K (.ref a_key) = true)
    (a30 : PySem.W.nsIn K mainGlobals "_law_number" = some (some (.ref a_number)))
    (l30 : K.lookup a_number = some ⟨oc30, od30, .func (PySem.W.fnOf "_law_number" "_law_number" (defArgs s_number) (defBody s_number) (defScope s_number) .none kV30 dc30 pm30 an30 cd30 ct30), sl30⟩)
    (c30 : PySem.W.codeIn K cd30 "_law_number" = true)
    (k30 : PySem.W.keepIn K (.ref a_number) = true)
    (a31 : PySem.W.nsIn K mainGlobals "_law_value" = some (some (.ref a_value)))
    (l31 : K.lookup a_value = some ⟨oc31, od31, .func (PySem.W.fnOf "_law_value" "_law_value" (defArgs s_value) (defBody s_value) (defScope s_value) .none kV31 dc31 pm31 an31 cd31 ct31), sl31⟩)
    (c31 : PySem.W.codeIn K cd31 "_law_value" = true)
    (k31 : PySem.W.keepIn K (.ref a_value) = true)
    (a32 : PySem.W.nsIn K mainGlobals "_law_drawn_base" = some (some (.ref a_drawn_base)))
    (l32 : K.lookup a_drawn_base = some ⟨oc32, od32, .func (PySem.W.fnOf "_law_drawn_base" "_law_drawn_base" (defArgs s_drawn_base) (defBody s_drawn_base) (defScope s_drawn_base) .none kV32 dc32 pm32 an32 cd32 ct32), sl32⟩)
    (c32 : PySem.W.codeIn K cd32 "_law_drawn_base" = true)
    (k32 : PySem.W.keepIn K (.ref a_drawn_base) = true)
    (a33 : PySem.W.nsIn K mainGlobals "_law_drawn_record" = some (some (.ref a_drawn_record)))
    (l33 : K.lookup a_drawn_record = some ⟨oc33, od33, .func (PySem.W.fnOf "_law_drawn_record" "_law_drawn_record" (defArgs s_drawn_record) (defBody s_drawn_record) (defScope s_drawn_record) .none kV33 dc33 pm33 an33 cd33 ct33), sl33⟩)
    (c33 : PySem.W.codeIn K cd33 "_law_drawn_record" = true)
    (k33 : PySem.W.keepIn K (.ref a_drawn_record) = true)
    (a34 : PySem.W.nsIn K mainGlobals "_law_done" = some (some (.ref a_done)))
    (l34 : K.lookup a_done = some ⟨oc34, od34, .func (PySem.W.fnOf "_law_done" "_law_done" (defArgs s_done) (defBody s_done) (defScope s_done) .none kV34 dc34 pm34 an34 cd34 ct34), sl34⟩)
    (c34 : PySem.W.codeIn K cd34 "_law_done" = true)
    (k34 : PySem.W.keepIn K (.ref a_done) = true)
    (a35 : PySem.W.nsIn K mainGlobals "_law_due" = some (some (.ref a_due)))
    (l35 : K.lookup a_due = some ⟨oc35, od35, .func (PySem.W.fnOf "_law_due" "_law_due" (defArgs s_due) (defBody s_due) (defScope s_due) .none kV35 dc35 pm35 an35 cd35 ct35), sl35⟩)
    (c35 : PySem.W.codeIn K cd35 "_law_due" = true)
    (k35 : PySem.W.keepIn K (.ref a_due) = true)
    (a36 : PySem.W.nsIn K mainGlobals "_law_some" = some (some (.ref a_some)))
    (l36 : K.lookup a_some = some ⟨oc36, od36, .func (PySem.W.fnOf "_law_some" "_law_some" (defArgs s_some) (defBody s_some) (defScope s_some) .none kV36 dc36 pm36 an36 cd36 ct36), sl36⟩)
    (c36 : PySem.W.codeIn K cd36 "_law_some" = true)
    (k36 : PySem.W.keepIn K (.ref a_some) = true)
    (a37 : PySem.W.nsIn K mainGlobals "law" = some (some (.ref a_law)))
    (l37 : K.lookup a_law = some ⟨oc37, od37, .func (PySem.W.fnOf "law" "law" (defArgs s_law) (defBody s_law) (defScope s_law) .none kV37 dc37 pm37 an37 cd37 ct37), sl37⟩)
    (c37 : PySem.W.codeIn K cd37 "law" = true)
    (k37 : PySem.W.keepIn K (.ref a_law) = true)
    (pg0 : PySem.W.plainGet K c_Store Str.empty = true)
    (hd0 : PySem.W.hasDictIn K c_Store = true)
    (po0 : PySem.W.plainOver K c_Store = true)
    (sa0 : PySem.W.findIn K (.ref c_Store) "__setattr__" = some (some (.builtin "object.__setattr__")))
    (mk0 : PySem.W.makesIn K c_Store = true)
    (kc0 : PySem.W.keepIn K (.ref c_Store) = true)
    (no0_own_most : PySem.W.findIn K (.ref c_Store) "own_most" = some none)
    (no0_own_rooms : PySem.W.findIn K (.ref c_Store) "own_rooms" = some none)
    (no0_own_heads : PySem.W.findIn K (.ref c_Store) "own_heads" = some none)
    (z_isinstance : PySem.W.nsIn K mainGlobals "isinstance" = some none)
    (z_int : PySem.W.nsIn K mainGlobals "int" = some none)
    (z_bool : PySem.W.nsIn K mainGlobals "bool" = some none)
    (z_tuple : PySem.W.nsIn K mainGlobals "tuple" = some none)
    (z_str : PySem.W.nsIn K mainGlobals "str" = some none)
    (z_len : PySem.W.nsIn K mainGlobals "len" = some none)
    (z_all : PySem.W.nsIn K mainGlobals "all" = some none)
    (z_zip : PySem.W.nsIn K mainGlobals "zip" = some none)
    (z_ValueError : PySem.W.nsIn K mainGlobals "ValueError" = some none)
    (z_IndexError : PySem.W.nsIn K mainGlobals "IndexError" = some none)
    (z_OverflowError : PySem.W.nsIn K mainGlobals "OverflowError" = some none)
    (z_sorted : PySem.W.nsIn K mainGlobals "sorted" = some none)
    (z_dict : PySem.W.nsIn K mainGlobals "dict" = some none)
    (z_range : PySem.W.nsIn K mainGlobals "range" = some none)
    (z_min : PySem.W.nsIn K mainGlobals "min" = some none)
    (z_max : PySem.W.nsIn K mainGlobals "max" = some none)
    (z_repr : PySem.W.nsIn K mainGlobals "repr" = some none)
    (z_list : PySem.W.nsIn K mainGlobals "list" = some none)
    (z_enumerate : PySem.W.nsIn K mainGlobals "enumerate" = some none)
    (kg_FORMS : PySem.W.nsIn K mainGlobals "FORMS" = some (some (.ref k_FORMS)))
    (kl_FORMS : K.lookup k_FORMS = some ⟨.type "dict", none, .dict es_FORMS nn_FORMS, #[]⟩)
    (km_FORMS : (k_FORMS == sysModules) = false)
    (kn_FORMS_0 : PySem.W.nsIn K k_FORMS "put" = some (some (.ref k_FORMS_0)))
    (kn_FORMS_1 : PySem.W.nsIn K k_FORMS "take" = some (some (.ref k_FORMS_1)))
    (kn_FORMS_2 : PySem.W.nsIn K k_FORMS "part" = some (some (.ref k_FORMS_2)))
    (kn_FORMS_3 : PySem.W.nsIn K k_FORMS "entry" = some (some (.ref k_FORMS_3)))
    (kn_FORMS_4 : PySem.W.nsIn K k_FORMS "less" = some (some (.ref k_FORMS_4)))
    (kn_FORMS_5 : PySem.W.nsIn K k_FORMS "gone" = some (some (.ref k_FORMS_5)))
    (kn_FORMS_6 : PySem.W.nsIn K k_FORMS "join" = some (some (.ref k_FORMS_6)))
    (kn_FORMS_7 : PySem.W.nsIn K k_FORMS "joining" = some (some (.ref k_FORMS_7)))
    (kn_FORMS_8 : PySem.W.nsIn K k_FORMS "lowering" = some (some (.ref k_FORMS_8)))
    (kn_FORMS_9 : PySem.W.nsIn K k_FORMS "moved" = some (some (.ref k_FORMS_9)))
    (kq_FORMS : Keyed w.params es_FORMS.toList [("put", .ref k_FORMS_0), ("take", .ref k_FORMS_1), ("part", .ref k_FORMS_2), ("entry", .ref k_FORMS_3), ("less", .ref k_FORMS_4), ("gone", .ref k_FORMS_5), ("join", .ref k_FORMS_6), ("joining", .ref k_FORMS_7), ("lowering", .ref k_FORMS_8), ("moved", .ref k_FORMS_9)])
    (kt_FORMS_0 : K.lookup k_FORMS_0 = some ⟨.type "tuple", dd_FORMS_0, .seq #[.ref a_is_key, .ref a_is_whole, .ref a_is_number] tn_FORMS_0, ts_FORMS_0⟩)
    (kt_FORMS_1 : K.lookup k_FORMS_1 = some ⟨.type "tuple", dd_FORMS_1, .seq #[.ref a_is_key, .ref a_is_number] tn_FORMS_1, ts_FORMS_1⟩)
    (kt_FORMS_2 : K.lookup k_FORMS_2 = some ⟨.type "tuple", dd_FORMS_2, .seq #[.ref a_is_key, .ref a_is_number, .ref a_is_number] tn_FORMS_2, ts_FORMS_2⟩)
    (kt_FORMS_3 : K.lookup k_FORMS_3 = some ⟨.type "tuple", dd_FORMS_3, .seq #[.ref a_is_key, .ref a_is_number, .ref a_is_number] tn_FORMS_3, ts_FORMS_3⟩)
    (kt_FORMS_4 : K.lookup k_FORMS_4 = some ⟨.type "tuple", dd_FORMS_4, .seq #[.ref a_is_key, .ref a_is_number] tn_FORMS_4, ts_FORMS_4⟩)
    (kt_FORMS_5 : K.lookup k_FORMS_5 = some ⟨.type "tuple", dd_FORMS_5, .seq #[.ref a_is_number, .ref a_is_number] tn_FORMS_5, ts_FORMS_5⟩)
    (kt_FORMS_6 : K.lookup k_FORMS_6 = some ⟨.type "tuple", dd_FORMS_6, .seq #[.ref a_is_key, .ref a_is_number, .ref a_is_number, .ref a_is_number] tn_FORMS_6, ts_FORMS_6⟩)
    (kt_FORMS_7 : K.lookup k_FORMS_7 = some ⟨.type "tuple", dd_FORMS_7, .seq #[.ref a_is_key, .ref a_is_number, .ref a_is_number, .ref a_is_number] tn_FORMS_7, ts_FORMS_7⟩)
    (kt_FORMS_8 : K.lookup k_FORMS_8 = some ⟨.type "tuple", dd_FORMS_8, .seq #[.ref a_is_number, .ref a_is_number] tn_FORMS_8, ts_FORMS_8⟩)
    (kt_FORMS_9 : K.lookup k_FORMS_9 = some ⟨.type "tuple", dd_FORMS_9, .seq #[.ref a_is_number] tn_FORMS_9, ts_FORMS_9⟩)
    (v_MOST_KEY : PySem.W.nsIn K mainGlobals "MOST_KEY" = some (some (.int 999999 tk_MOST_KEY)))
    (v_MOST_LEVEL : PySem.W.nsIn K mainGlobals "MOST_LEVEL" = some (some (.int 40 tk_MOST_LEVEL)))
    (v_MOST_ROWS : PySem.W.nsIn K mainGlobals "MOST_ROWS" = some (some (.int 400 tk_MOST_ROWS)))
    (v_MOST_ROOMS : PySem.W.nsIn K mainGlobals "MOST_ROOMS" = some (some (.int 9999 tk_MOST_ROOMS)))
    (v_ROOMS : PySem.W.nsIn K mainGlobals "ROOMS" = some (some (.int 4000 tk_ROOMS))) :
    ∃ fd : FuncData, (∀ (s : Shared) (v : Value), BindsTo s fd ⟨[v], []⟩ [("_law_script", v)]) ∧ ∀ base : Heap, K.In base → base.Ns mainGlobals mg → GD.FnOkG l.prog w K mg base 8 fa fd ["_law_script"] (spLaw K) := by
  have e := hfa.symm.trans (PySem.W.mg_of X G a37)
  cases e
  have F0 := fun_mk (st := s_NoSize_init) l0 c0 k0
  have F1 := fun_mk (st := s_NoRoom_init) l1 c1 k1
  have F2 := fun_mk (st := s_NoSlot_init) l2 c2 k2
  have F3 := fun_mk (st := s_Full_init) l3 c3 k3
  have F4 := fun_mk (st := s_is_whole) l4 c4 k4
  have F5 := fun_mk (st := s_is_key) l5 c5 k5
  have F6 := fun_mk (st := s_is_number) l6 c6 k6
  have F7 := fun_mk (st := s_are_rows) l7 c7 k7
  have F8 := fun_mk (st := s_are_bounds) l8 c8 k8
  have F9 := fun_mk (st := s_is_leaf) l9 c9 k9
  have F10 := fun_mk (st := s_is_bough) l10 c10 k10
  have F11 := fun_mk (st := s_is_record) l11 c11 k11
  have F12 := fun_mk (st := s_look_at_most) l12 c12 k12
  have F13 := fun_mk (st := s_least_free) l13 c13 k13
  have F14 := fun_mk (st := s_Store_init) l14 c14 k14
  have F15 := fun_mk (st := s_Store_look_at_room) l15 c15 k15
  have F16 := fun_mk (st := s_Store_look_at_slot) l16 c16 k16
  have F17 := fun_mk (st := s_Store_look_at_free) l17 c17 k17
  have F18 := fun_mk (st := s_Store_put_in) l18 c18 k18
  have F19 := fun_mk (st := s_Store_new_slot) l19 c19 k19
  have F20 := fun_mk (st := s_Store_load) l20 c20 k20
  have F21 := fun_mk (st := s_Store_drop) l21 c21 k21
  have F22 := fun_mk (st := s_Store_swap) l22 c22 k22
  have F23 := fun_mk (st := s_Store_rooms) l23 c23 k23
  have F24 := fun_mk (st := s_Store_heads) l24 c24 k24
  have F25 := fun_mk (st := s_Store___len__) l25 c25 k25
  have F26 := fun_mk (st := s_pool) l26 c26 k26
  have F27 := fun_mk (st := s_take) l27 c27 k27
  have F28 := fun_mk (st := s_is_slot) l28 c28 k28
  have F29 := fun_mk (st := s_key) l29 c29 k29
  have F30 := fun_mk (st := s_number) l30 c30 k30
  have F31 := fun_mk (st := s_value) l31 c31 k31
  have F32 := fun_mk (st := s_drawn_base) l32 c32 k32
  have F33 := fun_mk (st := s_drawn_record) l33 c33 k33
  have F34 := fun_mk (st := s_done) l34 c34 k34
  have F35 := fun_mk (st := s_due) l35 c35 k35
  have F36 := fun_mk (st := s_some) l36 c36 k36
  have F37 := fun_mk (st := s_law) l37 c37 k37
  have b0 := F0.binds (ps := ["self", "word"]) fun _ _ _ _ _ _ us hl => match us, hl with | [_, _], _ => rfl
  have b1 := F1.binds (ps := ["self", "room"]) fun _ _ _ _ _ _ us hl => match us, hl with | [_, _], _ => rfl
  have b2 := F2.binds (ps := ["self", "slot"]) fun _ _ _ _ _ _ us hl => match us, hl with | [_, _], _ => rfl
  have b3 := F3.binds (ps := ["self", "many"]) fun _ _ _ _ _ _ us hl => match us, hl with | [_, _], _ => rfl
  have b4 := F4.binds (ps := ["thing"]) fun _ _ _ _ _ _ us hl => match us, hl with | [_], _ => rfl
  have b5 := F5.binds (ps := ["thing"]) fun _ _ _ _ _ _ us hl => match us, hl with | [_], _ => rfl
  have b6 := F6.binds (ps := ["thing"]) fun _ _ _ _ _ _ us hl => match us, hl with | [_], _ => rfl
  have b7 := F7.binds (ps := ["thing", "low", "high"]) fun _ _ _ _ _ _ us hl => match us, hl with | [_, _, _], _ => rfl
  have b8 := F8.binds (ps := ["low", "high", "right"]) fun _ _ _ _ _ _ us hl => match us, hl with | [_, _, _], _ => rfl
  have b11 := F11.binds (ps := ["thing"]) fun _ _ _ _ _ _ us hl => match us, hl with | [_], _ => rfl
  have b12 := F12.binds (ps := ["most"]) fun _ _ _ _ _ _ us hl => match us, hl with | [_], _ => rfl
  have b13 := F13.binds (ps := ["taken"]) fun _ _ _ _ _ _ us hl => match us, hl with | [_], _ => rfl
  have b15 := F15.binds (ps := ["self", "room"]) fun _ _ _ _ _ _ us hl => match us, hl with | [_, _], _ => rfl
  have b16 := F16.binds (ps := ["self", "slot"]) fun _ _ _ _ _ _ us hl => match us, hl with | [_, _], _ => rfl
  have b17 := F17.binds (ps := ["self", "many"]) fun _ _ _ _ _ _ us hl => match us, hl with | [_, _], _ => rfl
  have b18 := F18.binds (ps := ["self", "record"]) fun _ _ _ _ _ _ us hl => match us, hl with | [_, _], _ => rfl
  have b19 := F19.binds (ps := ["self", "head"]) fun _ _ _ _ _ _ us hl => match us, hl with | [_, _], _ => rfl
  have b20 := F20.binds (ps := ["self", "slot"]) fun _ _ _ _ _ _ us hl => match us, hl with | [_, _], _ => rfl
  have b21 := F21.binds (ps := ["self", "slot"]) fun _ _ _ _ _ _ us hl => match us, hl with | [_, _], _ => rfl
  have b22 := F22.binds (ps := ["self", "slot", "old", "new"]) fun _ _ _ _ _ _ us hl => match us, hl with | [_, _, _, _], _ => rfl
  have b23 := F23.binds (ps := ["self"]) fun _ _ _ _ _ _ us hl => match us, hl with | [_], _ => rfl
  have b24 := F24.binds (ps := ["self"]) fun _ _ _ _ _ _ us hl => match us, hl with | [_], _ => rfl
  have b25 := F25.binds (ps := ["self"]) fun _ _ _ _ _ _ us hl => match us, hl with | [_], _ => rfl
  have b26 := F26.binds (ps := ["_law_script", "_law_k"]) fun _ _ _ _ _ _ us hl => match us, hl with | [_, _], _ => rfl
  have b27 := F27.binds (ps := ["_law_pool_here", "_law_many"]) fun _ _ _ _ _ _ us hl => match us, hl with | [_, _], _ => rfl
  have b28 := F28.binds (ps := ["_law_thing"]) fun _ _ _ _ _ _ us hl => match us, hl with | [_], _ => rfl
  have b29 := F29.binds (ps := ["_law_pool_here"]) fun _ _ _ _ _ _ us hl => match us, hl with | [_], _ => rfl
  have b30 := F30.binds (ps := ["_law_pool_here"]) fun _ _ _ _ _ _ us hl => match us, hl with | [_], _ => rfl
  have b31 := F31.binds (ps := ["_law_pool_here"]) fun _ _ _ _ _ _ us hl => match us, hl with | [_], _ => rfl
  have b32 := F32.binds (ps := ["_law_pool_here", "_law_word"]) fun _ _ _ _ _ _ us hl => match us, hl with | [_, _], _ => rfl
  have b33 := F33.binds (ps := ["_law_pool_here"]) fun _ _ _ _ _ _ us hl => match us, hl with | [_], _ => rfl
  have b34 := F34.binds (ps := ["_law_store", "_law_way", "_law_thing", "_law_old", "_law_room"]) fun _ _ _ _ _ _ us hl => match us, hl with | [_, _, _, _, _], _ => rfl
  have b35 := F35.binds (ps := ["_law_own", "_law_many", "_law_way", "_law_thing", "_law_old", "_law_room"]) fun _ _ _ _ _ _ us hl => match us, hl with | [_, _, _, _, _, _], _ => rfl
  have b36 := F36.binds (ps := ["_law_pool_here", "_law_size"]) fun _ _ _ _ _ _ us hl => match us, hl with | [_, _], _ => rfl
  have b37 := F37.binds (ps := ["_law_script"]) fun _ _ _ _ _ _ us hl => match us, hl with | [_], _ => rfl
  let A : Adr := { a_NoSize_init := a_NoSize_init, a_NoRoom_init := a_NoRoom_init, a_NoSlot_init := a_NoSlot_init, a_Full_init := a_Full_init, a_is_whole := a_is_whole, a_is_key := a_is_key, a_is_number := a_is_number, a_are_rows := a_are_rows, a_are_bounds := a_are_bounds, a_is_leaf := a_is_leaf, a_is_bough := a_is_bough, a_is_record := a_is_record, a_look_at_most := a_look_at_most, a_least_free := a_least_free, a_Store_init := a_Store_init, a_Store_look_at_room := a_Store_look_at_room, a_Store_look_at_slot := a_Store_look_at_slot, a_Store_look_at_free := a_Store_look_at_free, a_Store_put_in := a_Store_put_in, a_Store_new_slot := a_Store_new_slot, a_Store_load := a_Store_load, a_Store_drop := a_Store_drop, a_Store_swap := a_Store_swap, a_Store_rooms := a_Store_rooms, a_Store_heads := a_Store_heads, a_Store___len__ := a_Store___len__, a_pool := a_pool, a_take := a_take, a_is_slot := a_is_slot, a_key := a_key, a_number := a_number, a_value := a_value, a_drawn_base := a_drawn_base, a_drawn_record := a_drawn_record, a_done := a_done, a_due := a_due, a_some := a_some, a_law := fa, d_NoSize_init := PySem.W.fnOf "__init__" "NoSize.__init__" (defArgs s_NoSize_init) (defBody s_NoSize_init) (defScope s_NoSize_init) .none kV0 dc0 pm0 an0 cd0 ct0, d_NoRoom_init := PySem.W.fnOf "__init__" "NoRoom.__init__" (defArgs s_NoRoom_init) (defBody s_NoRoom_init) (defScope s_NoRoom_init) .none kV1 dc1 pm1 an1 cd1 ct1, d_NoSlot_init := PySem.W.fnOf "__init__" "NoSlot.__init__" (defArgs s_NoSlot_init) (defBody s_NoSlot_init) (defScope s_NoSlot_init) .none kV2 dc2 pm2 an2 cd2 ct2, d_Full_init := PySem.W.fnOf "__init__" "Full.__init__" (defArgs s_Full_init) (defBody s_Full_init) (defScope s_Full_init) .none kV3 dc3 pm3 an3 cd3 ct3, d_is_whole := PySem.W.fnOf "is_whole" "is_whole" (defArgs s_is_whole) (defBody s_is_whole) (defScope s_is_whole) .none kV4 dc4 pm4 an4 cd4 ct4, d_is_key := PySem.W.fnOf "is_key" "is_key" (defArgs s_is_key) (defBody s_is_key) (defScope s_is_key) .none kV5 dc5 pm5 an5 cd5 ct5, d_is_number := PySem.W.fnOf "is_number" "is_number" (defArgs s_is_number) (defBody s_is_number) (defScope s_is_number) .none kV6 dc6 pm6 an6 cd6 ct6, d_are_rows := PySem.W.fnOf "are_rows" "are_rows" (defArgs s_are_rows) (defBody s_are_rows) (defScope s_are_rows) .none kV7 dc7 pm7 an7 cd7 ct7, d_are_bounds := PySem.W.fnOf "are_bounds" "are_bounds" (defArgs s_are_bounds) (defBody s_are_bounds) (defScope s_are_bounds) .none kV8 dc8 pm8 an8 cd8 ct8, d_is_leaf := PySem.W.fnOf "is_leaf" "is_leaf" (defArgs s_is_leaf) (defBody s_is_leaf) (defScope s_is_leaf) .none kV9 dc9 pm9 an9 cd9 ct9, d_is_bough := PySem.W.fnOf "is_bough" "is_bough" (defArgs s_is_bough) (defBody s_is_bough) (defScope s_is_bough) .none kV10 dc10 pm10 an10 cd10 ct10, d_is_record := PySem.W.fnOf "is_record" "is_record" (defArgs s_is_record) (defBody s_is_record) (defScope s_is_record) .none kV11 dc11 pm11 an11 cd11 ct11, d_look_at_most := PySem.W.fnOf "look_at_most" "look_at_most" (defArgs s_look_at_most) (defBody s_look_at_most) (defScope s_look_at_most) .none kV12 dc12 pm12 an12 cd12 ct12, d_least_free := PySem.W.fnOf "least_free" "least_free" (defArgs s_least_free) (defBody s_least_free) (defScope s_least_free) .none kV13 dc13 pm13 an13 cd13 ct13, d_Store_init := PySem.W.fnOf "__init__" "Store.__init__" (defArgs s_Store_init) (defBody s_Store_init) (defScope s_Store_init) .none (.ref kvA_Store_init) dc14 pm14 an14 cd14 ct14, d_Store_look_at_room := PySem.W.fnOf "look_at_room" "Store.look_at_room" (defArgs s_Store_look_at_room) (defBody s_Store_look_at_room) (defScope s_Store_look_at_room) .none kV15 dc15 pm15 an15 cd15 ct15, d_Store_look_at_slot := PySem.W.fnOf "look_at_slot" "Store.look_at_slot" (defArgs s_Store_look_at_slot) (defBody s_Store_look_at_slot) (defScope s_Store_look_at_slot) .none kV16 dc16 pm16 an16 cd16 ct16, d_Store_look_at_free := PySem.W.fnOf "look_at_free" "Store.look_at_free" (defArgs s_Store_look_at_free) (defBody s_Store_look_at_free) (defScope s_Store_look_at_free) .none kV17 dc17 pm17 an17 cd17 ct17, d_Store_put_in := PySem.W.fnOf "put_in" "Store.put_in" (defArgs s_Store_put_in) (defBody s_Store_put_in) (defScope s_Store_put_in) .none kV18 dc18 pm18 an18 cd18 ct18, d_Store_new_slot := PySem.W.fnOf "new_slot" "Store.new_slot" (defArgs s_Store_new_slot) (defBody s_Store_new_slot) (defScope s_Store_new_slot) .none kV19 dc19 pm19 an19 cd19 ct19, d_Store_load := PySem.W.fnOf "load" "Store.load" (defArgs s_Store_load) (defBody s_Store_load) (defScope s_Store_load) .none kV20 dc20 pm20 an20 cd20 ct20, d_Store_drop := PySem.W.fnOf "drop" "Store.drop" (defArgs s_Store_drop) (defBody s_Store_drop) (defScope s_Store_drop) .none kV21 dc21 pm21 an21 cd21 ct21, d_Store_swap := PySem.W.fnOf "swap" "Store.swap" (defArgs s_Store_swap) (defBody s_Store_swap) (defScope s_Store_swap) .none kV22 dc22 pm22 an22 cd22 ct22, d_Store_rooms := PySem.W.fnOf "rooms" "Store.rooms" (defArgs s_Store_rooms) (defBody s_Store_rooms) (defScope s_Store_rooms) .none kV23 dc23 pm23 an23 cd23 ct23, d_Store_heads := PySem.W.fnOf "heads" "Store.heads" (defArgs s_Store_heads) (defBody s_Store_heads) (defScope s_Store_heads) .none kV24 dc24 pm24 an24 cd24 ct24, d_Store___len__ := PySem.W.fnOf "__len__" "Store.__len__" (defArgs s_Store___len__) (defBody s_Store___len__) (defScope s_Store___len__) .none kV25 dc25 pm25 an25 cd25 ct25, d_pool := PySem.W.fnOf "_law_pool" "_law_pool" (defArgs s_pool) (defBody s_pool) (defScope s_pool) .none kV26 dc26 pm26 an26 cd26 ct26, d_take := PySem.W.fnOf "_law_take" "_law_take" (defArgs s_take) (defBody s_take) (defScope s_take) .none kV27 dc27 pm27 an27 cd27 ct27, d_is_slot := PySem.W.fnOf "_law_is_slot" "_law_is_slot" (defArgs s_is_slot) (defBody s_is_slot) (defScope s_is_slot) .none kV28 dc28 pm28 an28 cd28 ct28, d_key := PySem.W.fnOf "_law_key" "_law_key" (defArgs s_key) (defBody s_key) (defScope s_key) .none kV29 dc29 pm29 an29 cd29 ct29, d_number := PySem.W.fnOf "_law_number" "_law_number" (defArgs s_number) (defBody s_number) (defScope s_number) .none kV30 dc30 pm30 an30 cd30 ct30, d_value := PySem.W.fnOf "_law_value" "_law_value" (defArgs s_value) (defBody s_value) (defScope s_value) .none kV31 dc31 pm31 an31 cd31 ct31, d_drawn_base := PySem.W.fnOf "_law_drawn_base" "_law_drawn_base" (defArgs s_drawn_base) (defBody s_drawn_base) (defScope s_drawn_base) .none kV32 dc32 pm32 an32 cd32 ct32, d_drawn_record := PySem.W.fnOf "_law_drawn_record" "_law_drawn_record" (defArgs s_drawn_record) (defBody s_drawn_record) (defScope s_drawn_record) .none kV33 dc33 pm33 an33 cd33 ct33, d_done := PySem.W.fnOf "_law_done" "_law_done" (defArgs s_done) (defBody s_done) (defScope s_done) .none kV34 dc34 pm34 an34 cd34 ct34, d_due := PySem.W.fnOf "_law_due" "_law_due" (defArgs s_due) (defBody s_due) (defScope s_due) .none kV35 dc35 pm35 an35 cd35 ct35, d_some := PySem.W.fnOf "_law_some" "_law_some" (defArgs s_some) (defBody s_some) (defScope s_some) .none kV36 dc36 pm36 an36 cd36 ct36, d_law := PySem.W.fnOf "law" "law" (defArgs s_law) (defBody s_law) (defScope s_law) .none kV37 dc37 pm37 an37 cd37 ct37, c_Store := c_Store, c_NoSize := c_NoSize, c_NoRoom := c_NoRoom, c_Full := c_Full, c_NoSlot := c_NoSlot, c_NoRecord := c_NoRecord, k_FORMS := k_FORMS, k_FORMS_0 := k_FORMS_0, k_FORMS_1 := k_FORMS_1, k_FORMS_2 := k_FORMS_2, k_FORMS_3 := k_FORMS_3, k_FORMS_4 := k_FORMS_4, k_FORMS_5 := k_FORMS_5, k_FORMS_6 := k_FORMS_6, k_FORMS_7 := k_FORMS_7, k_FORMS_8 := k_FORMS_8, k_FORMS_9 := k_FORMS_9 }
  have T : Txt w K mg A := { F_NoSize_init := F0, b_NoSize_init := b0, ic_NoSize := a0, ti_NoSize := i0, F_NoRoom_init := F1, b_NoRoom_init := b1, ic_NoRoom := a1, ti_NoRoom := i1, F_NoSlot_init := F2, b_NoSlot_init := b2, ic_NoSlot := a2, ti_NoSlot := i2, F_Full_init := F3, b_Full_init := b3, ic_Full := a3, ti_Full := i3, F_is_whole := F4, b_is_whole := b4, m_is_whole := PySem.W.mg_of X G a4, F_is_key := F5, b_is_key := b5, m_is_key := PySem.W.mg_of X G a5, F_is_number := F6, b_is_number := b6, m_is_number := PySem.W.mg_of X G a6, F_are_rows := F7, b_are_rows := b7, m_are_rows := PySem.W.mg_of X G a7, F_are_bounds := F8, b_are_bounds := b8, m_are_bounds := PySem.W.mg_of X G a8, F_is_leaf := F9, m_is_leaf := PySem.W.mg_of X G a9, F_is_bough := F10, m_is_bough := PySem.W.mg_of X G a10, F_is_record := F11, b_is_record := b11, m_is_record := PySem.W.mg_of X G a11, F_look_at_most := F12, b_look_at_most := b12, m_look_at_most := PySem.W.mg_of X G a12, F_least_free := F13, b_least_free := b13, m_least_free := PySem.W.mg_of X G a13, F_Store_init := F14, mk_Store := ⟨mk0, a14, i14, kc0⟩, bd_Store_init := ⟨_, bd_kw (n := 1) kvn_Store_init (by decide) (fun us hl => match us, hl with | [_], _ => ⟨_, _, _, _, _, _, rfl, rfl, rfl⟩), ⟨_, rfl⟩⟩, F_Store_look_at_room := F15, b_Store_look_at_room := b15, me_Store_look_at_room := ⟨a15, i15, k15⟩, F_Store_look_at_slot := F16, b_Store_look_at_slot := b16, me_Store_look_at_slot := ⟨a16, i16, k16⟩, F_Store_look_at_free := F17, b_Store_look_at_free := b17, me_Store_look_at_free := ⟨a17, i17, k17⟩, F_Store_put_in := F18, b_Store_put_in := b18, me_Store_put_in := ⟨a18, i18, k18⟩, F_Store_new_slot := F19, b_Store_new_slot := b19, me_Store_new_slot := ⟨a19, i19, k19⟩, F_Store_load := F20, b_Store_load := b20, me_Store_load := ⟨a20, i20, k20⟩, F_Store_drop := F21, b_Store_drop := b21, me_Store_drop := ⟨a21, i21, k21⟩, F_Store_swap := F22, b_Store_swap := b22, me_Store_swap := ⟨a22, i22, k22⟩, F_Store_rooms := F23, b_Store_rooms := b23, me_Store_rooms := ⟨a23, i23, k23⟩, F_Store_heads := F24, b_Store_heads := b24, me_Store_heads := ⟨a24, i24, k24⟩, F_Store___len__ := F25, b_Store___len__ := b25, me_Store___len__ := ⟨a25, i25, k25⟩, F_pool := F26, b_pool := b26, m_pool := PySem.W.mg_of X G a26, F_take := F27, b_take := b27, m_take := PySem.W.mg_of X G a27, F_is_slot := F28, b_is_slot := b28, m_is_slot := PySem.W.mg_of X G a28, F_key := F29, b_key := b29, m_key := PySem.W.mg_of X G a29, F_number := F30, b_number := b30, m_number := PySem.W.mg_of X G a30, F_value := F31, b_value := b31, m_value := PySem.W.mg_of X G a31, F_drawn_base := F32, b_drawn_base := b32, m_drawn_base := PySem.W.mg_of X G a32, F_drawn_record := F33, b_drawn_record := b33, m_drawn_record := PySem.W.mg_of X G a33, F_done := F34, b_done := b34, m_done := PySem.W.mg_of X G a34, F_due := F35, b_due := b35, m_due := PySem.W.mg_of X G a35, F_some := F36, b_some := b36, m_some := PySem.W.mg_of X G a36, F_law := F37, b_law := b37, m_law := PySem.W.mg_of X G a37, tx_NoRoom_NoSlot := exm_pair bE_NoSlot iE_NoSlot yE_NoSlot vE_NoRoom_NoSlot, mg_NoSize := PySem.W.mg_of X G gE_NoSize, te_NoSize := exm_self bE_NoSize iE_NoSize yE_NoSize uE_NoSize, ow_NoSize := ⟨ER.bV, ⟨nm_NoSize, qq_NoSize, NN_NoSize, bs_NoSize, sn_NoSize, sub_NoSize, ab_NoSize, col_NoSize, dd_NoSize, m0_NoSize, m1_NoSize, m2_NoSize, m3_NoSize, m5_NoSize, xE_NoSize⟩, sE_NoSize, rE_NoSize, tE_NoSize, bE_NoSize, yE_NoSize, kE_NoSize, dE_NoSize⟩, no_NoSize_word := nE_NoSize_word, mg_NoRoom := PySem.W.mg_of X G gE_NoRoom, te_NoRoom := exm_self bE_NoRoom iE_NoRoom yE_NoRoom uE_NoRoom, ow_NoRoom := ⟨ER.bI, ⟨nm_NoRoom, qq_NoRoom, NN_NoRoom, bs_NoRoom, sn_NoRoom, sub_NoRoom, ab_NoRoom, col_NoRoom, dd_NoRoom, m0_NoRoom, m1_NoRoom, m2_NoRoom, m3_NoRoom, m5_NoRoom, xE_NoRoom⟩, sE_NoRoom, rE_NoRoom, tE_NoRoom, bE_NoRoom, yE_NoRoom, kE_NoRoom, dE_NoRoom⟩, no_NoRoom_room := nE_NoRoom_room, mg_Full := PySem.W.mg_of X G gE_Full, te_Full := exm_self bE_Full iE_Full yE_Full uE_Full, ow_Full := ⟨ER.bO, ⟨nm_Full, qq_Full, NN_Full, bs_Full, sn_Full, sub_Full, ab_Full, col_Full, dd_Full, m0_Full, m1_Full, m2_Full, m3_Full, m5_Full, xE_Full⟩, sE_Full, rE_Full, tE_Full, bE_Full, yE_Full, kE_Full, dE_Full⟩, no_Full_many := nE_Full_many, mg_NoSlot := PySem.W.mg_of X G gE_NoSlot, te_NoSlot := exm_self bE_NoSlot iE_NoSlot yE_NoSlot uE_NoSlot, ow_NoSlot := ⟨ER.bI, ⟨nm_NoSlot, qq_NoSlot, NN_NoSlot, bs_NoSlot, sn_NoSlot, sub_NoSlot, ab_NoSlot, col_NoSlot, dd_NoSlot, m0_NoSlot, m1_NoSlot, m2_NoSlot, m3_NoSlot, m5_NoSlot, xE_NoSlot⟩, sE_NoSlot, rE_NoSlot, tE_NoSlot, bE_NoSlot, yE_NoSlot, kE_NoSlot, dE_NoSlot⟩, no_NoSlot_slot := nE_NoSlot_slot, mg_NoRecord := PySem.W.mg_of X G gE_NoRecord, te_NoRecord := exm_self bE_NoRecord iE_NoRecord yE_NoRecord uE_NoRecord, ex_NoRecord := qE_NoRecord, kc_NoRecord := kE_NoRecord, sb_NoRecord := bE_NoRecord, ty_NoRecord := yE_NoRecord, cl_Store := ⟨pg0, hd0, po0, sa0⟩, mg_Store := PySem.W.mg_of X G aC0, no_Store_own_most := no0_own_most, no_Store_own_rooms := no0_own_rooms, no_Store_own_heads := no0_own_heads, n_isinstance := PySem.W.mg_none_of X G z_isinstance, n_int := PySem.W.mg_none_of X G z_int, n_bool := PySem.W.mg_none_of X G z_bool, n_tuple := PySem.W.mg_none_of X G z_tuple, n_str := PySem.W.mg_none_of X G z_str, n_len := PySem.W.mg_none_of X G z_len, n_all := PySem.W.mg_none_of X G z_all, n_zip := PySem.W.mg_none_of X G z_zip, n_ValueError := PySem.W.mg_none_of X G z_ValueError, n_IndexError := PySem.W.mg_none_of X G z_IndexError, n_OverflowError := PySem.W.mg_none_of X G z_OverflowError, n_sorted := PySem.W.mg_none_of X G z_sorted, n_dict := PySem.W.mg_none_of X G z_dict, n_range := PySem.W.mg_none_of X G z_range, n_min := PySem.W.mg_none_of X G z_min, n_max := PySem.W.mg_none_of X G z_max, n_repr := PySem.W.mg_none_of X G z_repr, n_list := PySem.W.mg_none_of X G z_list, n_enumerate := PySem.W.mg_none_of X G z_enumerate, mk_FORMS := PySem.W.mg_of X G kg_FORMS, kd_FORMS := ⟨⟨_, _, kl_FORMS, kq_FORMS, km_FORMS⟩⟩, kt_FORMS_0 := kt_sq kt_FORMS_0 (by rw [sizeLine_eq]; show 3 ≤ 16777216; decide) (.cons rfl (.cons rfl (.cons rfl .nil))), kt_FORMS_1 := kt_sq kt_FORMS_1 (by rw [sizeLine_eq]; show 2 ≤ 16777216; decide) (.cons rfl (.cons rfl .nil)), kt_FORMS_2 := kt_sq kt_FORMS_2 (by rw [sizeLine_eq]; show 3 ≤ 16777216; decide) (.cons rfl (.cons rfl (.cons rfl .nil))), kt_FORMS_3 := kt_sq kt_FORMS_3 (by rw [sizeLine_eq]; show 3 ≤ 16777216; decide) (.cons rfl (.cons rfl (.cons rfl .nil))), kt_FORMS_4 := kt_sq kt_FORMS_4 (by rw [sizeLine_eq]; show 2 ≤ 16777216; decide) (.cons rfl (.cons rfl .nil)), kt_FORMS_5 := kt_sq kt_FORMS_5 (by rw [sizeLine_eq]; show 2 ≤ 16777216; decide) (.cons rfl (.cons rfl .nil)), kt_FORMS_6 := kt_sq kt_FORMS_6 (by rw [sizeLine_eq]; show 4 ≤ 16777216; decide) (.cons rfl (.cons rfl (.cons rfl (.cons rfl .nil)))), kt_FORMS_7 := kt_sq kt_FORMS_7 (by rw [sizeLine_eq]; show 4 ≤ 16777216; decide) (.cons rfl (.cons rfl (.cons rfl (.cons rfl .nil)))), kt_FORMS_8 := kt_sq kt_FORMS_8 (by rw [sizeLine_eq]; show 2 ≤ 16777216; decide) (.cons rfl (.cons rfl .nil)), kt_FORMS_9 := kt_sq kt_FORMS_9 (by rw [sizeLine_eq]; show 1 ≤ 16777216; decide) (.cons rfl .nil), v_MOST_KEY := ⟨_, PySem.W.mg_of X G v_MOST_KEY⟩, v_MOST_LEVEL := ⟨_, PySem.W.mg_of X G v_MOST_LEVEL⟩, v_MOST_ROWS := ⟨_, PySem.W.mg_of X G v_MOST_ROWS⟩, v_MOST_ROOMS := ⟨_, PySem.W.mg_of X G v_MOST_ROOMS⟩, v_ROOMS := ⟨_, PySem.W.mg_of X G v_ROOMS⟩ }
  exact ⟨A.d_law, fun s v => .of_eq rfl, fun base _ _ => ok_law T⟩
theorem walk {l : PySem.W.OpenLaw} {q : Program} {loose : List Str} {XP : (Str → Option Value) → Heap → Prop} {YP : World → Heap → Prop} {d : DefRec} {K : Params → PySem.W.Frag} (hn : l.most = some 63) (hdf : d.params.defaults = [])
    (hY : ∀ (w : World) (h : Heap), YP w h → (K w.params).In h)
    (F : ∀ (w : World) (mg : Str → Option Value) (fa : Addr) (h : Heap), (K w.params).In h → h.Ns mainGlobals mg → mg d.name = some (.ref fa) →
      ∃ fd : FuncData, (∀ (s : Shared) (u : Value), BindsTo s fd ⟨[u], []⟩ [("_law_script", u)]) ∧ ∀ base : Heap, (K w.params).In base → base.Ns mainGlobals mg → GD.FnOkG l.prog w (K w.params) mg base 8 fa fd ["_law_script"] (spLaw (K w.params))) :
    PySem.W.WalkO q loose XP YP l.row.toRowW d [] (fun f vs => PySem.call f vs) :=
  GD.walk_ofG (n := 63) (k := 8) (x := "_law_script") (sp := fun w => spLaw (K w.params)) hn (by decide) hdf ⟨rfl, by decide, by decide⟩ hY F (fun _ _ a ns hl _ hS => ⟨a, ns, rfl, hS, hl, fun _ => rfl⟩)
end LawK06
open PySem PySem.W PyProof.Rows in
set_option maxRecDepth 100000 in
set_option maxHeartbeats 0 in
theorem PySem.Challenge.cw_deltaboughs_k06_slots_and_swaps_holds : PySem.Challenge.rw_deltaboughs_k06_slots_and_swaps.Holds := by
  w_on; o_law; k_head; (case hw => w_witness2)
  k_fill
  refine LawK06.walk (l := PySem.Challenge.rw_deltaboughs_k06_slots_and_swaps) rfl rfl (fun w h Y => PySem.W.kIn_of Y) ?F
  case F =>
    intro w mg fa h KX G hmg
    refine' LawK06.all_mk KX G hmg ?aC0 ?gE_NoSize ?xE_NoSize ?sE_NoSize ?rE_NoSize ?tE_NoSize ?dE_NoSize ?nE_NoSize_word ?bE_NoSize ?yE_NoSize ?kE_NoSize ?iE_NoSize ?uE_NoSize ?gE_NoRoom ?xE_NoRoom ?sE_NoRoom ?rE_NoRoom ?tE_NoRoom ?dE_NoRoom ?nE_NoRoom_room ?bE_NoRoom ?yE_NoRoom ?kE_NoRoom ?iE_NoRoom ?uE_NoRoom ?gE_Full ?xE_Full ?sE_Full ?rE_Full ?tE_Full ?dE_Full ?nE_Full_many ?bE_Full ?yE_Full ?kE_Full ?iE_Full ?uE_Full ?gE_NoSlot ?xE_NoSlot ?sE_NoSlot ?rE_NoSlot ?tE_NoSlot ?dE_NoSlot ?nE_NoSlot_slot ?bE_NoSlot ?yE_NoSlot ?kE_NoSlot ?iE_NoSlot ?uE_NoSlot ?gE_NoRecord ?qE_NoRecord ?bE_NoRecord ?yE_NoRecord ?kE_NoRecord ?iE_NoRecord ?uE_NoRecord ?vE_NoRoom_NoSlot ?a0 ?i0 ?l0 ?c0 ?k0 ?a1 ?i1 ?l1 ?c1 ?k1 ?a2 ?i2 ?l2 ?c2 ?k2 ?a3 ?i3 ?l3 ?c3 ?k3 ?a4 ?l4 ?c4 ?k4 ?a5 ?l5 ?c5 ?k5 ?a6 ?l6 ?c6 ?k6 ?a7 ?l7 ?c7 ?k7 ?a8 ?l8 ?c8 ?k8 ?a9 ?l9 ?c9 ?k9 ?a10 ?l10 ?c10 ?k10 ?a11 ?l11 ?c11 ?k11 ?a12 ?l12 ?c12 ?k12 ?a13 ?l13 ?c13 ?k13 ?a14 ?i14 ?l14 ?kvn_Store_init ?c14 ?k14 ?a15 ?i15 ?l15 ?c15 ?k15 ?a16 ?i16 ?l16 ?c16 ?k16 ?a17 ?i17 ?l17 ?c17 ?k17 ?a18 ?i18 ?l18 ?c18 ?k18 ?a19 ?i19 ?l19 ?c19 ?k19 ?a20 ?i20 ?l20 ?c20 ?k20 ?a21 ?i21 ?l21 ?c21 ?k21 ?a22 ?i22 ?l22 ?c22 ?k22 ?a23 ?i23 ?l23 ?c23 ?k23 ?a24 ?i24 ?l24 ?c24 ?k24 ?a25 ?i25 ?l25 ?c25 ?k25 ?a26 ?l26 ?c26 ?k26 ?a27 ?l27 ?c27 ?k27 ?a28 ?l28 ?c28 ?k28 ?a29 ?l29 ?c29 ?k29 ?a30 ?l30 ?c30 ?k30 ?a31 ?l31 ?c31 ?k31 ?a32 ?l32 ?c32 ?k32 ?a33 ?l33 ?c33 ?k33 ?a34 ?l34 ?c34 ?k34 ?a35 ?l35 ?c35 ?k35 ?a36 ?l36 ?c36 ?k36 ?a37 ?l37 ?c37 ?k37 ?pg0 ?hd0 ?po0 ?sa0 ?mk0 ?kc0 ?no0_own_most ?no0_own_rooms ?no0_own_heads ?z_isinstance ?z_int ?z_bool ?z_tuple ?z_str ?z_len ?z_all ?z_zip ?z_ValueError ?z_IndexError ?z_OverflowError ?z_sorted ?z_dict ?z_range ?z_min ?z_max ?z_repr ?z_list ?z_enumerate ?kg_FORMS ?kl_FORMS ?km_FORMS ?kn_FORMS_0 ?kn_FORMS_1 ?kn_FORMS_2 ?kn_FORMS_3 ?kn_FORMS_4 ?kn_FORMS_5 ?kn_FORMS_6 ?kn_FORMS_7 ?kn_FORMS_8 ?kn_FORMS_9 ?kq_FORMS ?kt_FORMS_0 ?kt_FORMS_1 ?kt_FORMS_2 ?kt_FORMS_3 ?kt_FORMS_4 ?kt_FORMS_5 ?kt_FORMS_6 ?kt_FORMS_7 ?kt_FORMS_8 ?kt_FORMS_9 ?v_MOST_KEY ?v_MOST_LEVEL ?v_MOST_ROWS ?v_MOST_ROOMS ?v_ROOMS
    (case aC0 => k_is)
    (case gE_NoSize => k_is)
    (case xE_NoSize => k_is)
    (case sE_NoSize => k_is)
    (case rE_NoSize => k_is)
    (case tE_NoSize => k_is)
    (case dE_NoSize => k_is)
    (case nE_NoSize_word => k_is)
    (case bE_NoSize => k_is)
    (case yE_NoSize => k_is)
    (case kE_NoSize => k_is)
    (case iE_NoSize => k_is)
    (case uE_NoSize => first | rfl | k_is)
    (case gE_NoRoom => k_is)
    (case xE_NoRoom => k_is)
    (case sE_NoRoom => k_is)
    (case rE_NoRoom => k_is)
    (case tE_NoRoom => k_is)
    (case dE_NoRoom => k_is)
    (case nE_NoRoom_room => k_is)
    (case bE_NoRoom => k_is)
    (case yE_NoRoom => k_is)
    (case kE_NoRoom => k_is)
    (case iE_NoRoom => k_is)
    (case uE_NoRoom => first | rfl | k_is)
    (case gE_Full => k_is)
    (case xE_Full => k_is)
    (case sE_Full => k_is)
    (case rE_Full => k_is)
    (case tE_Full => k_is)
    (case dE_Full => k_is)
    (case nE_Full_many => k_is)
    (case bE_Full => k_is)
    (case yE_Full => k_is)
    (case kE_Full => k_is)
    (case iE_Full => k_is)
    (case uE_Full => first | rfl | k_is)
    (case gE_NoSlot => k_is)
    (case xE_NoSlot => k_is)
    (case sE_NoSlot => k_is)
    (case rE_NoSlot => k_is)
    (case tE_NoSlot => k_is)
    (case dE_NoSlot => k_is)
    (case nE_NoSlot_slot => k_is)
    (case bE_NoSlot => k_is)
    (case yE_NoSlot => k_is)
    (case kE_NoSlot => k_is)
    (case iE_NoSlot => k_is)
    (case uE_NoSlot => first | rfl | k_is)
    (case gE_NoRecord => k_is)
    (case qE_NoRecord => k_exc)
    (case bE_NoRecord => k_is)
    (case yE_NoRecord => k_is)
    (case kE_NoRecord => k_is)
    (case iE_NoRecord => k_is)
    (case uE_NoRecord => first | rfl | k_is)
    (case vE_NoRoom_NoSlot => k_is)
    (case a0 => k_is)
    (case i0 => k_is)
    (case l0 => k_is)
    (case c0 => k_is)
    (case k0 => k_is)
    (case a1 => k_is)
    (case i1 => k_is)
    (case l1 => k_is)
    (case c1 => k_is)
    (case k1 => k_is)
    (case a2 => k_is)
    (case i2 => k_is)
    (case l2 => k_is)
    (case c2 => k_is)
    (case k2 => k_is)
    (case a3 => k_is)
    (case i3 => k_is)
    (case l3 => k_is)
    (case c3 => k_is)
    (case k3 => k_is)
    (case a4 => k_is)
    (case l4 => k_is)
    (case c4 => k_is)
    (case k4 => k_is)
    (case a5 => k_is)
    (case l5 => k_is)
    (case c5 => k_is)
    (case k5 => k_is)
    (case a6 => k_is)
    (case l6 => k_is)
    (case c6 => k_is)
    (case k6 => k_is)
    (case a7 => k_is)
    (case l7 => k_is)
    (case c7 => k_is)
    (case k7 => k_is)
    (case a8 => k_is)
    (case l8 => k_is)
    (case c8 => k_is)
    (case k8 => k_is)
    (case a9 => k_is)
    (case l9 => k_is)
    (case c9 => k_is)
    (case k9 => k_is)
    (case a10 => k_is)
    (case l10 => k_is)
    (case c10 => k_is)
    (case k10 => k_is)
    (case a11 => k_is)
    (case l11 => k_is)
    (case c11 => k_is)
    (case k11 => k_is)
    (case a12 => k_is)
    (case l12 => k_is)
    (case c12 => k_is)
    (case k12 => k_is)
    (case a13 => k_is)
    (case l13 => k_is)
    (case c13 => k_is)
    (case k13 => k_is)
    (case a14 => k_is)
    (case i14 => k_is)
    (case l14 => k_is)
    (case kvn_Store_init => k_is)
    (case c14 => k_is)
    (case k14 => k_is)
    (case a15 => k_is)
    (case i15 => k_is)
    (case l15 => k_is)
    (case c15 => k_is)
    (case k15 => k_is)
    (case a16 => k_is)
    (case i16 => k_is)
    (case l16 => k_is)
    (case c16 => k_is)
    (case k16 => k_is)
    (case a17 => k_is)
    (case i17 => k_is)
    (case l17 => k_is)
    (case c17 => k_is)
    (case k17 => k_is)
    (case a18 => k_is)
    (case i18 => k_is)
    (case l18 => k_is)
    (case c18 => k_is)
    (case k18 => k_is)
    (case a19 => k_is)
    (case i19 => k_is)
    (case l19 => k_is)
    (case c19 => k_is)
    (case k19 => k_is)
    (case a20 => k_is)
    (case i20 => k_is)
    (case l20 => k_is)
    (case c20 => k_is)
    (case k20 => k_is)
    (case a21 => k_is)
    (case i21 => k_is)
    (case l21 => k_is)
    (case c21 => k_is)
    (case k21 => k_is)
    (case a22 => k_is)
    (case i22 => k_is)
    (case l22 => k_is)
    (case c22 => k_is)
    (case k22 => k_is)
    (case a23 => k_is)
    (case i23 => k_is)
    (case l23 => k_is)
    (case c23 => k_is)
    (case k23 => k_is)
    (case a24 => k_is)
    (case i24 => k_is)
    (case l24 => k_is)
    (case c24 => k_is)
    (case k24 => k_is)
    (case a25 => k_is)
    (case i25 => k_is)
    (case l25 => k_is)
    (case c25 => k_is)
    (case k25 => k_is)
    (case a26 => k_is)
    (case l26 => k_is)
    (case c26 => k_is)
    (case k26 => k_is)
    (case a27 => k_is)
    (case l27 => k_is)
    (case c27 => k_is)
    (case k27 => k_is)
    (case a28 => k_is)
    (case l28 => k_is)
    (case c28 => k_is)
    (case k28 => k_is)
    (case a29 => k_is)
    (case l29 => k_is)
    (case c29 => k_is)
    (case k29 => k_is)
    (case a30 => k_is)
    (case l30 => k_is)
    (case c30 => k_is)
    (case k30 => k_is)
    (case a31 => k_is)
    (case l31 => k_is)
    (case c31 => k_is)
    (case k31 => k_is)
    (case a32 => k_is)
    (case l32 => k_is)
    (case c32 => k_is)
    (case k32 => k_is)
    (case a33 => k_is)
    (case l33 => k_is)
    (case c33 => k_is)
    (case k33 => k_is)
    (case a34 => k_is)
    (case l34 => k_is)
    (case c34 => k_is)
    (case k34 => k_is)
    (case a35 => k_is)
    (case l35 => k_is)
    (case c35 => k_is)
    (case k35 => k_is)
    (case a36 => k_is)
    (case l36 => k_is)
    (case c36 => k_is)
    (case k36 => k_is)
    (case a37 => k_is)
    (case l37 => k_is)
    (case c37 => k_is)
    (case k37 => k_is)
    (case pg0 => k_is)
    (case hd0 => k_is)
    (case po0 => k_is)
    (case sa0 => k_is)
    (case mk0 => k_is)
    (case kc0 => k_is)
    (case no0_own_most => k_is)
    (case no0_own_rooms => k_is)
    (case no0_own_heads => k_is)
    (case z_isinstance => k_is)
    (case z_int => k_is)
    (case z_bool => k_is)
    (case z_tuple => k_is)
    (case z_str => k_is)
    (case z_len => k_is)
    (case z_all => k_is)
    (case z_zip => k_is)
    (case z_ValueError => k_is)
    (case z_IndexError => k_is)
    (case z_OverflowError => k_is)
    (case z_sorted => k_is)
    (case z_dict => k_is)
    (case z_range => k_is)
    (case z_min => k_is)
    (case z_max => k_is)
    (case z_repr => k_is)
    (case z_list => k_is)
    (case z_enumerate => k_is)
    (case kg_FORMS => k_is)
    (case kl_FORMS => k_is)
    (case km_FORMS => rfl)
    (case kn_FORMS_0 => k_is)
    (case kn_FORMS_1 => k_is)
    (case kn_FORMS_2 => k_is)
    (case kn_FORMS_3 => k_is)
    (case kn_FORMS_4 => k_is)
    (case kn_FORMS_5 => k_is)
    (case kn_FORMS_6 => k_is)
    (case kn_FORMS_7 => k_is)
    (case kn_FORMS_8 => k_is)
    (case kn_FORMS_9 => k_is)
    (case kq_FORMS => repeat' (first | exact True.intro | exact ⟨_, rfl⟩ | exact rfl | apply And.intro))
    (case kt_FORMS_0 => k_is)
    (case kt_FORMS_1 => k_is)
    (case kt_FORMS_2 => k_is)
    (case kt_FORMS_3 => k_is)
    (case kt_FORMS_4 => k_is)
    (case kt_FORMS_5 => k_is)
    (case kt_FORMS_6 => k_is)
    (case kt_FORMS_7 => k_is)
    (case kt_FORMS_8 => k_is)
    (case kt_FORMS_9 => k_is)
    (case v_MOST_KEY => k_is)
    (case v_MOST_LEVEL => k_is)
    (case v_MOST_ROWS => k_is)
    (case v_MOST_ROOMS => k_is)
    (case v_ROOMS => k_is)
